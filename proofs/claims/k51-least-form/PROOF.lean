import PyProof.Rows.All
import Wide.All
import OpenK.AllK
import Wide.FinOn
import KE.KeyNested
import KE.KDictKeyed
import KE.KDictCopyH
import KE.KDictWalk
import HandS.ForMost
import HandS.IsInst
import KE.DataMinMax
import HandS.Style
import HandS.DictComp
import HandS.Defaults
import PySem.Challenge.RW_halvedloads_k51_least_form
import KE.KStateDown
import Lean
import HandS.Head0
import HandS.Head1
import HandS.Head2
import HandS.HeadEnd
import HandS.HeadHook1
import HandS.HeadHook2
set_option Elab.async false
set_option linter.all false
set_option maxRecDepth 100000
/-! ViA: deep values, the small language, its meaning. -/
namespace Vi
open PySem PySem.Spec PyProof.Rows L2

/-- a deep value -/
inductive D where
  | non | bl (b : Bool) | int (i : Int) | str (x : Str) | ty (n : String)
  | tup (ds : List D) | lst (ds : List D) | dct (ks vs : List D)

mutual
/-- the key that a value is, up to == -/
def nk : D → Option NestedKey
  | .non => some .none
  | .bl b => some (.num (if b = true then 1 else 0))
  | .int i => some (.num i)
  | .str x => some (.text x)
  | .ty _ => none
  | .tup ds => (nks ds).map .tup
  | .lst _ => none
  | .dct _ _ => none
def nks : List D → Option (List NestedKey)
  | [] => some []
  | d :: ds => (nk d).bind fun k => (nks ds).map fun ks => k :: ks
end
mutual
/-- as data, for == -/
def py : D → Option PyData
  | .non => some .none
  | .bl b => some (.bool b)
  | .int i => some (.int i)
  | .str x => some (.str x)
  | .ty _ => none
  | .tup ds => (pys ds).map .tuple
  | .lst ds => (pys ds).map .list
  | .dct _ _ => none
def pys : List D → Option (List PyData)
  | [] => some []
  | d :: ds => (py d).bind fun k => (pys ds).map fun ks => k :: ks
end
/-- kinds of keys: 0 ints and texts, 1 bools and None, 2 tuples, 3 no keys -/
def kd : D → Nat
  | .int _ => 0
  | .str _ => 0
  | .bl _ => 1
  | .non => 1
  | .tup _ => 2
  | _ => 3

/-- a result: owned (new, nobody else has it)?, its value -/
abbrev R := Bool × D
abbrev SV := Option R
abbrev VE := List SV
/-- an exception: its class, its fields -/
abbrev XD := Str × List D
/-- a contract: arguments, what is wanted of the result, of an exception -/
abbrev Ctr := List D → (R → Prop) → (XD → Prop) → Prop

inductive Bo where | add | sub | mul | fdiv | mod | pow
/-- built-in functions -/
inductive F1 where | len | int | tuple | list | max | abs
inductive F2 where | max | min
inductive Co where | lt | le | gt | ge | eq | ne | is_ | isn | mem | nmem

/-- a target: one name, a tuple of names -/
inductive Tg where
  | nm (i : Nat)
  | tp (is : List Nat)

mutual
inductive Ex where
  | var (i : Nat)
  | non | bl (b : Bool) | int (i : Int) | str (x : Str)
  | tup (es : Exs) | lst (es : Exs)
  | bin (o : Bo) (a b : Ex)
  | cmp (o : Co) (a b : Ex)
  | chain (o o' : Co) (a b c : Ex)
  | neg (a : Ex)
  | notv (a : Ex) | andv (a b : Ex) | orv (a b : Ex)
  | ife (t : Tx) (a b : Ex)
  | idx (a i : Ex)
  | slc (a : Ex) (lo hi : Ox)
  | call (f : Str) (args : Exs)
  | fn1 (f : F1) (a : Ex)
  | fn2 (f : F2) (a b : Ex)
  | isi (a : Ex) (t : String)
  | isiT (a : Ex) (ts : List String)
  | lc (fz : List Nat) (elt : Ex) (tg : Tg) (it : Itx) (cond : Txs)
  | dc (fz : List Nat) (k v : Ex) (tg : Tg) (it : Itx)
  | dnew
  | dnew1 (k v : Ex)
inductive Exs where
  | nil
  | cons (e : Ex) (es : Exs)
inductive Ox where
  | none
  | some (e : Ex)
inductive Tx where
  | val (e : Ex)
  | not (t : Tx)
  | and (a b : Tx) | or (a b : Tx)
inductive Txs where
  | none
  | one (t : Tx)
inductive Itx where
  | seq (a : Ex)
  | rng1 (a : Ex) | rng2 (a b : Ex)
  | vals (a : Ex)
end

mutual
inductive Cm where
  | set (i : Nat) (e : Ex)
  | setT (is : List Nat) (e : Ex)
  | setIx (i : Nat) (k e : Ex)
  | app (i : Nat) (e : Ex)
  | ex (e : Ex)
  | ret (e : Ex) | retN
  | ite (t : Tx) (a b : Cms)
  | for_ (tg : Tg) (it : Itx) (body : Cms)
  | while_ (t : Tx) (body : Cms)
  | brk | cont | pass
inductive Cms where
  | nil
  | cons (c : Cm) (cs : Cms)
end

/-! ### operations on values -/
def wBin (o : Bo) (x y : D) (Q : R → Prop) : Prop :=
  match o, x, y with
  | .add, .int a, .int b => Q (false, .int (a + b))
  | .add, .tup a, .tup b => a ≠ [] ∧ a.length + b.length ≤ sizeLine ∧ Q (false, .tup (a ++ b))
  | .add, .lst a, .lst b => a.length + b.length ≤ sizeLine ∧ Q (true, .lst (a ++ b))
  | .sub, .int a, .int b => Q (false, .int (a - b))
  | .mul, .int a, .int b => CMul a b ∧ Q (false, .int (a * b))
  | .mul, .lst a, .int b => -(2 ^ 63) ≤ b ∧ b < 2 ^ 63 ∧ a.length * b.toNat ≤ sizeLine ∧ Q (true, .lst (List.replicate b.toNat a).flatten)
  | .fdiv, .int a, .int b => CDiv a b ∧ Q (false, .int (a / b))
  | .mod, .int a, .int b => 0 < b ∧ Q (false, .int (a % b))
  | .pow, .int a, .int b => CPow a b ∧ Q (false, .int (a ^ b.toNat))
  | _, _, _ => False
/-- the keys of a dict and one more are of one kind -/
def KeyOk (ks : List D) (k : D) : Prop := (∀ a ∈ ks, kd a = kd k) ∧ kd k < 3 ∧ ∃ n, nk k = some n ∧ n.depth ≤ 8
def dget : List D → List D → D → Option D
  | a :: ks, v :: vs, k => if nk a = nk k then some v else dget ks vs k
  | _, _, _ => none
/-- d[k] = v: the keys, the values -/
def dputK (ks : List D) (k : D) : List D := if ks.any (fun a => decide (nk a = nk k)) then ks else ks ++ [k]
def dputV {α : Type} : List D → List α → D → α → List α
  | a :: ks, w :: vs, k, v => if nk a = nk k then v :: vs else w :: dputV ks vs k v
  | _, _, _, v => [v]
def flat : D → Bool
  | .non => true
  | .bl _ => true
  | .int _ => true
  | .str _ => true
  | _ => false
/-- == of two values that are data -/
def deq (x y : D) : Option Bool := (py x).bind fun d => (py y).bind fun e => if SeqAt.shaped d = true ∧ SeqAt.shaped e = true then some (PyData.eqv d e) else none
def isC : D → Bool
  | .non => true
  | .bl _ => true
  | _ => false
/-- x is y, y None or a bool -/
def isD : D → D → Bool
  | .non, .non => true
  | .bl a, .bl b => a == b
  | _, _ => false
def wCmp (o : Co) (x y : D) (Q : Bool → Prop) : Prop :=
  match o with
  | .lt => (match x, y with | .int a, .int b => Q (decide (a < b)) | _, _ => False)
  | .le => (match x, y with | .int a, .int b => Q (decide (a ≤ b)) | _, _ => False)
  | .gt => (match x, y with | .int a, .int b => Q (decide (b < a)) | _, _ => False)
  | .ge => (match x, y with | .int a, .int b => Q (decide (b ≤ a)) | _, _ => False)
  | .eq => ∃ b, deq x y = some b ∧ Q b
  | .ne => ∃ b, deq x y = some b ∧ Q (!b)
  | .is_ => isC y = true ∧ Q (isD x y)
  | .isn => isC y = true ∧ Q (!isD x y)
  | .mem => (match y with
    | .dct ks vs => KeyOk ks x ∧ Q (dget ks vs x).isSome
    | _ => False)
  | .nmem => (match y with
    | .dct ks vs => KeyOk ks x ∧ Q (!(dget ks vs x).isSome)
    | _ => False)
def wIdx (x i : D) (Q : D → Prop) : Prop :=
  match x, i with
  | .lst ds, .int k => ∃ v, atI ds k = some v ∧ Q v
  | .tup ds, .int k => ∃ v, atI ds k = some v ∧ Q v
  | .dct ks vs, k => KeyOk ks k ∧ ∃ v, dget ks vs k = some v ∧ Q v
  | _, _ => False
def cutD (xs : List D) (lo hi : Option Int) : List D := (xs.drop (HT.sIx xs.length 0 lo)).take (HT.sIx xs.length xs.length hi - HT.sIx xs.length 0 lo)
def wSlc (x : D) (lo hi : Option Int) (Q : R → Prop) : Prop :=
  match x with
  | .lst ds => Q (true, .lst (cutD ds lo hi))
  | .tup ds => ¬ (HT.sIx ds.length 0 lo = 0 ∧ HT.sIx ds.length ds.length hi = ds.length) ∧ Q (false, .tup (cutD ds lo hi))
  | _ => False
def allI : List D → Option (List Int)
  | [] => some []
  | .int i :: r => (allI r).map fun is => i :: is
  | _ :: _ => none
/-- built-in functions of one argument -/
def wFn1 (f : F1) (x : D) (Q : R → Prop) : Prop :=
  match f, x with
  | .len, .lst ds => Q (false, .int ds.length)
  | .len, .tup ds => Q (false, .int ds.length)
  | .len, .dct ks vs => Q (false, .int ks.length)
  | .int, .int i => Q (false, .int i)
  | .int, .bl b => Q (false, .int (if b = true then 1 else 0))
  | .tuple, .lst ds => Q (false, .tup ds)
  | .tuple, .tup ds => Q (false, .tup ds)
  | .list, .lst ds => Q (true, .lst ds)
  | .list, .tup ds => Q (true, .lst ds)
  | .max, .lst ds => ∃ ns, allI ds = some ns ∧ 0 < ns.length ∧ ∀ m, m ∈ ns → (∀ y, y ∈ ns → y ≤ m) → Q (false, .int m)
  | .max, .tup ds => ∃ ns, allI ds = some ns ∧ 0 < ns.length ∧ ∀ m, m ∈ ns → (∀ y, y ∈ ns → y ≤ m) → Q (false, .int m)
  | .abs, .int i => Q (false, .int (if i < 0 then -i else i))
  | _, _ => False
def wFn2 (f : F2) (x y : D) (Q : R → Prop) : Prop :=
  match f, x, y with
  | .max, .int a, .int b => Q (false, .int (if b > a then b else a))
  | .min, .int a, .int b => Q (false, .int (if b < a then b else a))
  | _, _, _ => False
/-- the name of a value's type -/
def tyN : D → String
  | .non => "NoneType"
  | .bl _ => "bool"
  | .int _ => "int"
  | .str _ => "str"
  | .ty _ => "type"
  | .tup _ => "tuple"
  | .lst _ => "list"
  | .dct _ _ => "dict"
def isPl : D → Bool
  | .dct _ _ => false
  | .ty _ => false
  | _ => true
/-- isinstance(x, (T, ..)) by the type's name -/
def kitA (t : String) : List String → Option Bool
  | [] => some false
  | c :: cs => (kitB t c).bind fun b => if b = true then some true else kitA t cs
def truth (x : D) (Q : Bool → Prop) : Prop :=
  match x with
  | .non => Q false
  | .bl b => Q b
  | .int i => Q (i != 0)
  | .lst ds => Q (!ds.isEmpty)
  | .tup ds => Q (!ds.isEmpty)
  | _ => False
/-- a slot's value is from now on shared -/
def frz1 (env : VE) (i : Nat) : VE :=
  match env[i]? with
  | some (some r) => env.set i (some (false, r.2))
  | _ => env
def frzL (env : VE) : List Nat → VE
  | [] => env
  | i :: is => frzL (frz1 env i) is
def wipeE (env : VE) : List Nat → VE
  | [] => env
  | v :: vs => (wipeE env vs).set v none
def Tg.slots : Tg → List Nat
  | .nm i => [i]
  | .tp is => is
def bindTs : List Nat → List D → VE → (VE → Prop) → Prop
  | [], [], env, Q => Q env
  | i :: is, d :: ds, env, Q => bindTs is ds (env.set i (some (false, d))) Q
  | _, _, _, _ => False
def bindT (tg : Tg) (d : D) (env : VE) (Q : VE → Prop) : Prop :=
  match tg with
  | .nm i => Q (env.set i (some (false, d)))
  | .tp is => (match d with
    | .tup ds => bindTs is ds env Q
    | _ => False)

/-! ### the meaning -/
/-- read without sharing -/
def bor (a : Ex) (w : VE → (R → VE → Prop) → Prop) (env : VE) (Q : D → VE → Prop) : Prop :=
  match a with
  | .var i => (match env[i]? with
    | some (some r) => Q r.2 env
    | _ => False)
  | _ => w env fun r e => Q r.2 e

mutual
def wE (G : Str → Option (Nat × Ctr)) (E : XD → VE → Prop) : Ex → VE → (R → VE → Prop) → Prop
  | .var i, env, Q => (match env[i]? with
    | some (some r) => Q (false, r.2) (env.set i (some (false, r.2)))
    | _ => False)
  | .non, env, Q => Q (false, .non) env
  | .bl b, env, Q => Q (false, .bl b) env
  | .int i, env, Q => Q (false, .int i) env
  | .str x, env, Q => Q (false, .str x) env
  | .tup es, env, Q => wEs G E es env fun ds e => ds.length ≤ sizeLine ∧ Q (false, .tup ds) e
  | .lst es, env, Q => wEs G E es env fun ds e => ds.length ≤ sizeLine ∧ Q (true, .lst ds) e
  | .bin o a b, env, Q => bor a (wE G E a) env fun x e1 => bor b (wE G E b) e1 fun y e2 => wBin o x y fun r => Q r e2
  | .cmp o a b, env, Q => bor a (wE G E a) env fun x e1 => bor b (wE G E b) e1 fun y e2 => wCmp o x y fun r => Q (false, .bl r) e2
  | .chain o o' a b c, env, Q => bor a (wE G E a) env fun x e1 => bor b (wE G E b) e1 fun y e2 => wCmp o x y fun r =>
      if r = true then bor c (wE G E c) e2 fun z e3 => wCmp o' y z fun r => Q (false, .bl r) e3 else Q (false, .bl false) e2
  | .neg a, env, Q => bor a (wE G E a) env fun x e1 => (match x with | .int i => Q (false, .int (-i)) e1 | _ => False)
  | .notv a, env, Q => bor a (wE G E a) env fun x e1 => (match x with | .bl b => Q (false, .bl (!b)) e1 | _ => False)
  | .andv a b, env, Q => bor a (wE G E a) env fun x e1 => (match x with | .bl c => if c = true then wE G E b e1 Q else Q (false, .bl false) e1 | _ => False)
  | .orv a b, env, Q => bor a (wE G E a) env fun x e1 => (match x with | .bl c => if c = true then Q (false, .bl true) e1 else wE G E b e1 Q | _ => False)
  | .ife t a b, env, Q => wT G E t env fun c e1 => if c = true then wE G E a e1 Q else wE G E b e1 Q
  | .idx a i, env, Q => bor a (wE G E a) env fun x e1 => bor i (wE G E i) e1 fun y e2 => wIdx x y fun d => Q (false, d) e2
  | .slc a lo hi, env, Q => bor a (wE G E a) env fun x e1 => wO G E lo e1 fun l e2 => wO G E hi e2 fun h e3 => wSlc x l h fun r => Q r e3
  | .call f es, env, Q => ∃ c, G f = some c ∧ wEs G E es env fun ds e => ds.length = c.1 ∧ c.2 ds (fun r => Q r e) fun x => E x e
  | .fn1 f a, env, Q => bor a (wE G E a) env fun x e1 => wFn1 f x fun r => Q r e1
  | .fn2 f a b, env, Q => bor a (wE G E a) env fun x e1 => bor b (wE G E b) e1 fun y e2 => wFn2 f x y fun r => Q r e2
  | .isi a t, env, Q => bor a (wE G E a) env fun x e1 => isPl x = true ∧ ∃ b, kitB (tyN x) t = some b ∧ Q (false, .bl b) e1
  | .isiT a ts, env, Q => bor a (wE G E a) env fun x e1 => isPl x = true ∧ ∃ b, kitA (tyN x) ts = some b ∧ Q (false, .bl b) e1
  | .lc fz elt tg it cond, env, Q => wI G E it (frzL env fz) fun items e1 =>
      ∃ I : Nat → List D → Prop, I 0 [] ∧
        (∀ i d acc, items[i]? = some d → I i acc → bindT tg d (wipeE e1 tg.slots) fun e2 => wTxs G E cond e2 fun c e3 => e3 = e2 ∧
          if c = true then wE G E elt e3 fun r e4 => e4 = e2 ∧ acc.length < sizeLine ∧ I (i + 1) (acc ++ [r.2]) else I (i + 1) acc) ∧
        ∀ acc, I items.length acc → Q (true, .lst acc) e1
  | .dc fz k v tg it, env, Q => wI G E it (frzL env fz) fun items e1 =>
      ∃ I : Nat → List D → List D → Prop, I 0 [] [] ∧
        (∀ i d ks vs, items[i]? = some d → I i ks vs → bindT tg d (wipeE e1 tg.slots) fun e2 => wE G E k e2 fun r e3 => e3 = e2 ∧ wE G E v e3 fun r' e4 => e4 = e2 ∧
          KeyOk ks r.2 ∧ kd r.2 = 0 ∧ ks.length < sizeLine ∧ I (i + 1) (dputK ks r.2) (dputV ks vs r.2 r'.2)) ∧
        ∀ ks vs, I items.length ks vs → Q (true, .dct ks vs) e1
  | .dnew, env, Q => Q (true, .dct [] []) env
  | .dnew1 k v, env, Q => wE G E k env fun r e1 => wE G E v e1 fun r' e2 => kd r.2 = 0 ∧ Q (true, .dct [r.2] [r'.2]) e2
def wEs (G : Str → Option (Nat × Ctr)) (E : XD → VE → Prop) : Exs → VE → (List D → VE → Prop) → Prop
  | .nil, env, Q => Q [] env
  | .cons a es, env, Q => wE G E a env fun r e1 => wEs G E es e1 fun ds e2 => Q (r.2 :: ds) e2
def wO (G : Str → Option (Nat × Ctr)) (E : XD → VE → Prop) : Ox → VE → (Option Int → VE → Prop) → Prop
  | .none, env, Q => Q none env
  | .some a, env, Q => bor a (wE G E a) env fun x e1 => (match x with | .int i => Q (some i) e1 | _ => False)
def wT (G : Str → Option (Nat × Ctr)) (E : XD → VE → Prop) : Tx → VE → (Bool → VE → Prop) → Prop
  | .val a, env, Q => bor a (wE G E a) env fun x e1 => truth x fun b => Q b e1
  | .not t, env, Q => wT G E t env fun b e1 => Q (!b) e1
  | .and a b, env, Q => wT G E a env fun c e1 => if c = true then wT G E b e1 Q else Q false e1
  | .or a b, env, Q => wT G E a env fun c e1 => if c = true then Q true e1 else wT G E b e1 Q
def wTxs (G : Str → Option (Nat × Ctr)) (E : XD → VE → Prop) : Txs → VE → (Bool → VE → Prop) → Prop
  | .none, env, Q => Q true env
  | .one t, env, Q => wT G E t env Q
def wI (G : Str → Option (Nat × Ctr)) (E : XD → VE → Prop) : Itx → VE → (List D → VE → Prop) → Prop
  | .seq a, env, Q => bor a (wE G E a) env fun x e1 => (match x with | .lst ds => Q ds e1 | .tup ds => Q ds e1 | _ => False)
  | .rng1 a, env, Q => bor a (wE G E a) env fun x e1 => (match x with
    | .int j => -(2 ^ 62) ≤ j ∧ j < 2 ^ 62 ∧ Q ((List.range j.toNat).map fun (k : Nat) => D.int (k : Int)) e1
    | _ => False)
  | .rng2 a b, env, Q => bor a (wE G E a) env fun x e1 => bor b (wE G E b) e1 fun y e2 => (match x, y with
    | .int i, .int j => (-(2 ^ 62) ≤ i ∧ i < 2 ^ 62 ∧ -(2 ^ 62) ≤ j ∧ j < 2 ^ 62) ∧ Q ((List.range (j - i).toNat).map fun (k : Nat) => D.int (i + (k : Int))) e2
    | _, _ => False)
  | .vals a, env, Q => bor a (wE G E a) env fun x e1 => (match x with | .dct ks vs => Q vs e1 | _ => False)
end

/-- what is wanted behind a statement -/
structure KE where
  nx : VE → Prop
  rt : R → Prop
  bk : VE → Prop := fun _ => False
  ct : VE → Prop := fun _ => False
/-- a for loop walks shared things: its own source is shared first -/
def itFz : Itx → List Nat
  | .seq (.var i) => [i]
  | .vals (.var i) => [i]
  | _ => []
mutual
def wC (G : Str → Option (Nat × Ctr)) (E : XD → VE → Prop) : Cm → VE → KE → Prop
  | .set i a, env, K => wE G E a env fun r e1 => K.nx (e1.set i (some r))
  | .setT is a, env, K => wE G E a env fun r e1 => bindT (.tp is) r.2 e1 K.nx
  | .setIx i k a, env, K => wE G E a env fun r e1 => (∃ r0, e1[i]? = some (some r0)) ∧ bor k (wE G E k) e1 fun y e2 => (match e2[i]? with
    | some (some (true, .lst ds)) => (match y with
      | .int n => ∃ j, ixN ds.length n = some j ∧ K.nx (e2.set i (some (true, .lst (ds.set j r.2))))
      | _ => False)
    | some (some (true, .dct ks vs)) => KeyOk ks y ∧ ks.length < sizeLine ∧ K.nx (e2.set i (some (true, .dct (dputK ks y) (dputV ks vs y r.2))))
    | _ => False)
  | .app i a, env, K => (match env[i]? with
    | some (some (true, .lst ds)) => wE G E a env fun r e1 => e1[i]? = some (some (true, .lst ds)) ∧ ds.length < sizeLine ∧ K.nx (e1.set i (some (true, .lst (ds ++ [r.2]))))
    | _ => False)
  | .ex a, env, K => wE G E a env fun _ e1 => K.nx e1
  | .ret a, env, K => (match a with
    | .var i => (match env[i]? with
      | some (some r) => K.rt r
      | _ => False)
    | _ => wE G E a env fun r _ => K.rt r)
  | .retN, env, K => K.rt (false, .non)
  | .ite t a b, env, K => wT G E t env fun c e1 => if c = true then wCs G E a e1 K else wCs G E b e1 K
  | .for_ tg it body, env, K => wI G E it (frzL env (itFz it)) fun items e1 =>
      ∃ I : Nat → VE → Prop, I 0 e1 ∧
        (∀ i d e, items[i]? = some d → I i e → bindT tg d e fun e2 => wCs G E body e2 { K with nx := I (i + 1), ct := I (i + 1), bk := K.nx }) ∧
        ∀ e, I items.length e → K.nx e
  | .while_ t body, env, K => ∃ I : Nat → VE → Prop, (∃ m, I m env) ∧
      ∀ m e, I m e → wT G E t e fun c e1 => if c = true then wCs G E body e1 { K with nx := fun e2 => ∃ m', m' < m ∧ I m' e2, ct := fun e2 => ∃ m', m' < m ∧ I m' e2, bk := K.nx } else K.nx e1
  | .brk, env, K => K.bk env
  | .cont, env, K => K.ct env
  | .pass, env, K => K.nx env
def wCs (G : Str → Option (Nat × Ctr)) (E : XD → VE → Prop) : Cms → VE → KE → Prop
  | .nil, env, K => K.nx env
  | .cons c cs, env, K => wC G E c env { K with nx := fun e => wCs G E cs e K }
end
/-- the environment of a def at its start -/
def startE (n : Nat) (ds : List D) : VE := ds.map (fun d => some (false, d)) ++ List.replicate (n - ds.length) none
/-- a def's body keeps a contract -/
def Body (G : Str → Option (Nat × Ctr)) (n : Nat) (body : Cms) (c : Ctr) : Prop :=
  ∀ ds Q E, c ds Q E → wCs G (fun x _ => E x) body (startE n ds) { nx := fun _ => Q (false, .non), rt := Q }
end Vi
set_option Elab.async false
set_option linter.all false
set_option maxRecDepth 100000
/-! ViB: deep values in an abstract heap. -/
namespace Vi
open PySem PySem.Spec PyProof.Rows L2

/-- the dict object o, just as it is -/
def dictO (o : Obj) (p : Addr) : HO := .ext fun h => h.get? p = some o
/-- the leaf that a bool or None is -/
def leafOf : D → Option Leaf
  | .non => some .none
  | .bl b => some (.num (if b = true then 1 else 0))
  | _ => none
/-- a key as it stands: bools and None up to == alone -/
def KRel (y : V) (d : D) (u : Value) : Prop :=
  match leafOf d with
  | some l => Leaf.isOf l u = true
  | none => RelV y u
inductive EntsAre (w : World) : List DictEntry → List V → List V → List D → Prop
  | nil : EntsAre w [] [] [] []
  | cons {e es yk yks yv yvs k ks n} : KRel yk k e.key → RelV yv e.val → nk k = some n → e.hash = n.hash w → EntsAre w es yks yvs ks → EntsAre w (e :: es) (yk :: yks) (yv :: yvs) (k :: ks)
structure DictIs (w : World) (o : Obj) (yks yvs : List V) (ks : List D) : Prop where
  ex : o.ExactDict
  dat : ∃ es ep, o.data = .dict es ep ∧ EntsAre w es.toList yks yvs ks
  sz : ks.length ≤ sizeLine
  nd : (ks.map nk).Nodup
  kind : ∃ c, c < 3 ∧ ∀ a ∈ ks, kd a = c
  keys : ∀ a ∈ ks, ∃ n, nk a = some n ∧ n.depth ≤ 8

mutual
inductive Rep (w : World) (F : Hp) : V → D → Prop
  | non : Rep w F .non .non
  | bl (b : Bool) : Rep w F (.bl b) (.bl b)
  | int (i : Int) : Rep w F (.int i) (.int i)
  | str (x : Str) : Rep w F (.str x) (.str x)
  | ty (n : String) : Rep w F (.ty n) (.ty n)
  | tup {p xs ds} : F p = some (.tup xs) → Reps w F xs ds → Rep w F (.ref p) (.tup ds)
  | lst {p xs ds} : Rd F p (.lst xs) → Reps w F xs ds → Rep w F (.ref p) (.lst ds)
  | dct {p o yks yvs ks vs} : F p = some (dictO o p) → (p == sysModules) = false → Reps w F yks ks → Reps w F yvs vs → DictIs w o yks yvs ks → Rep w F (.ref p) (.dct ks vs)
inductive Reps (w : World) (F : Hp) : List V → List D → Prop
  | nil : Reps w F [] []
  | cons {x xs d ds} : Rep w F x d → Reps w F xs ds → Reps w F (x :: xs) (d :: ds)
end

section
variable {w : World} {F F' H H' H0 F0 : Hp} {v u : V} {d e : D} {xs ys : List V} {ds es : List D} {p : Addr}
theorem Rd.mono {u : HO} (s : Same F F') (h : Rd F p u) : Rd F' p u := h.elim (fun h => .inl (s _ _ h)) fun ⟨o, h⟩ => .inr ⟨o, s _ _ h⟩
theorem Rd.ne {u : HO} (h : Rd F p u) : F p ≠ none := by
  rcases h with h | ⟨o, h⟩ <;> rw [h] <;> exact fun z => nomatch z
mutual
theorem Rep.mono (s : Same F F') : ∀ {v : V} {d : D}, Rep w F v d → Rep w F' v d
  | _, _, .non => .non
  | _, _, .bl b => .bl b
  | _, _, .int i => .int i
  | _, _, .str x => .str x
  | _, _, .ty n => .ty n
  | _, _, .tup h r => .tup (s _ _ h) (Reps.mono s r)
  | _, _, .lst h r => .lst (Rd.mono s h) (Reps.mono s r)
  | _, _, .dct h g r q i => .dct (s _ _ h) g (Reps.mono s r) (Reps.mono s q) i
theorem Reps.mono (s : Same F F') : ∀ {xs : List V} {ds : List D}, Reps w F xs ds → Reps w F' xs ds
  | _, _, .nil => .nil
  | _, _, .cons r t => .cons (Rep.mono s r) (Reps.mono s t)
end
theorem Reps.length : ∀ {xs : List V} {ds : List D}, Reps w F xs ds → xs.length = ds.length
  | _, _, .nil => rfl
  | _, _, .cons _ t => by simp [Reps.length t]
theorem Reps.append : ∀ {xs ys : List V} {ds es : List D}, Reps w F xs ds → Reps w F ys es → Reps w F (xs ++ ys) (ds ++ es)
  | _, _, _, _, .nil, s => s
  | _, _, _, _, .cons r t, s => .cons r (Reps.append t s)
theorem Reps.one (r : Rep w F v d) : Reps w F [v] [d] := .cons r .nil
theorem Reps.take : ∀ {xs : List V} {ds : List D} (n : Nat), Reps w F xs ds → Reps w F (xs.take n) (ds.take n)
  | _, _, 0, _ => .nil
  | _, _, _ + 1, .nil => .nil
  | _, _, n + 1, .cons r t => .cons r (Reps.take n t)
theorem Reps.drop : ∀ {xs : List V} {ds : List D} (n : Nat), Reps w F xs ds → Reps w F (xs.drop n) (ds.drop n)
  | _, _, 0, r => r
  | _, _, _ + 1, .nil => .nil
  | _, _, n + 1, .cons _ t => Reps.drop n t
theorem Reps.rep (h : Reps w F xs ds) : ∀ k : Nat, Reps w F (List.replicate k xs).flatten (List.replicate k ds).flatten
  | 0 => .nil
  | k + 1 => by
    rw [List.replicate_succ, List.replicate_succ, List.flatten_cons, List.flatten_cons]
    exact h.append (Reps.rep h k)
theorem Reps.get : ∀ {xs : List V} {ds : List D} {i : Nat} {d : D}, Reps w F xs ds → ds[i]? = some d → ∃ v, xs[i]? = some v ∧ Rep w F v d
  | _, _, _, _, .nil, e => by simp at e
  | _, _, 0, _, .cons r _, e => by simp at e; subst e; exact ⟨_, rfl, r⟩
  | _, _, i + 1, d, .cons _ t, e => by
    obtain ⟨v, h1, h2⟩ := Reps.get (i := i) (d := d) t (by simpa using e)
    exact ⟨v, by simpa using h1, h2⟩
theorem Reps.set (r : Rep w F v d) : ∀ {xs : List V} {ds : List D} (i : Nat), Reps w F xs ds → Reps w F (xs.set i v) (ds.set i d)
  | _, _, _, .nil => .nil
  | _, _, 0, .cons _ t => .cons r t
  | _, _, i + 1, .cons q t => .cons q (Reps.set r i t)

/-- a list or dict that H holds at p, its items shared -/
def RepTop (w : World) (F H : Hp) (p : Addr) : D → Prop
  | .lst ds => ∃ xs, H p = some (.lst xs) ∧ Reps w F xs ds
  | .dct ks vs => ∃ o yks yvs, H p = some (dictO o p) ∧ (p == sysModules) = false ∧ Reps w F yks ks ∧ Reps w F yvs vs ∧ DictIs w o yks yvs ks
  | _ => False
theorem RepTop.mono (s : Same F F') (t : Same H H') : ∀ {d : D}, RepTop w F H p d → RepTop w F' H' p d
  | .lst _, ⟨xs, h, r⟩ => ⟨xs, t _ _ h, r.mono s⟩
  | .dct _ _, ⟨o, yks, yvs, h, g, r, q, i⟩ => ⟨o, yks, yvs, t _ _ h, g, r.mono s, q.mono s, i⟩
theorem RepTop.there {d : D} (h : RepTop w F H p d) : H p ≠ none := by
  cases d with
  | lst ds => obtain ⟨xs, e, _⟩ := h; rw [e]; exact fun z => nomatch z
  | dct ks vs => obtain ⟨o, _, _, e, _⟩ := h; rw [e]; exact fun z => nomatch z
  | _ => exact h.elim
/-- frozen: H's object at p is put into F -/
theorem RepTop.frz {d : D} (h : RepTop w F H p d) (hF : F p = none) : ∃ o, H p = some o ∧ Rep w (upd F p o) (.ref p) d := by
  have s : ∀ o, Same F (upd F p o) := fun o b x e => by rw [upd_ne (ne_of_none e hF)]; exact e
  cases d with
  | lst ds => obtain ⟨xs, e, r⟩ := h; exact ⟨_, e, .lst (.inl upd_same) (r.mono (s _))⟩
  | dct ks vs => obtain ⟨o, yks, yvs, e, g, r, q, i⟩ := h; exact ⟨_, e, .dct upd_same g (r.mono (s _)) (q.mono (s _)) i⟩
  | _ => exact h.elim
/-- a value as it is read: shared, or a list or dict that H holds -/
def RepW (w : World) (F H : Hp) (v : V) (d : D) : Prop := Rep w F v d ∨ ∃ p, v = .ref p ∧ RepTop w F H p d
theorem RepW.mono (s : Same F F') (t : Same H H') (h : RepW w F H v d) : RepW w F' H' v d := by
  rcases h with h | ⟨p, e, h⟩
  · exact .inl (h.mono s)
  · exact .inr ⟨p, e, h.mono s t⟩
/-- a result -/
def RepR (w : World) (H0 F H : Hp) (v : V) (r : R) : Prop :=
  if r.1 = true then ∃ p, v = .ref p ∧ F p = none ∧ H0 p = none ∧ RepTop w F H p r.2 else Rep w F v r.2
theorem RepR.fro (h : Rep w F v d) : RepR w H0 F H v (false, d) := by unfold RepR; rw [if_neg (by simp)]; exact h
theorem RepR.own (e : v = .ref p) (h1 : F p = none) (h2 : H0 p = none) (h : RepTop w F H p d) : RepR w H0 F H v (true, d) := by unfold RepR; rw [if_pos rfl]; exact ⟨p, e, h1, h2, h⟩
theorem RepR.asW {r : R} (h : RepR w H0 F H v r) : RepW w F H v r.2 := by
  unfold RepR at h
  split at h
  · obtain ⟨p, e, _, _, t⟩ := h; exact .inr ⟨p, e, t⟩
  · exact .inl h

/-! ### environments -/
def SlotOk (w : World) (H0 F H : Hp) (sv : SV) (s : Option (Option V)) : Prop :=
  match sv with
  | none => s = some none
  | some r => ∃ v, s = some (some v) ∧ RepR w H0 F H v r
structure EnvOk (w : World) (F0 H0 F H : Hp) (env : VE) (σ : L2.St) : Prop where
  len : env.length = σ.length
  slot : ∀ (i : Nat) (sv : SV), env[i]? = some sv → SlotOk w H0 F H sv σ[i]?
  dist : ∀ (i j : Nat) (d d' : D) (p : Addr), i ≠ j → env[i]? = some (some (true, d)) → env[j]? = some (some (true, d')) → σ[i]? = some (some (.ref p)) → σ[j]? ≠ some (some (.ref p))
  refs : ∀ (i : Nat) (a : Addr), σ[i]? = some (some (.ref a)) → H a ≠ none
  sub0 : Same F0 F
  sub : Same F H
  same : Same H0 H
  fr : ∀ a, F a ≠ none → F0 a ≠ none ∨ H0 a = none
/-- what an expression does to the heap -/
structure Xt (F H F' H' : Hp) (σ : L2.St) : Prop where
  sub : Same F F'
  same : Same H H'
  fr : ∀ a, F a = none → H a ≠ none → (∀ i : Nat, σ[i]? ≠ some (some (.ref a))) → F' a = none
theorem Xt.refl {σ : L2.St} : Xt F H F H σ := ⟨Same.refl _, Same.refl _, fun _ h _ _ => h⟩
theorem Same.ne {a : Addr} (s : Same H H') (h : H a ≠ none) : H' a ≠ none := by
  cases e : H a with
  | none => exact absurd e h
  | some o => rw [s a o e]; exact fun z => nomatch z
theorem Xt.trans {σ : L2.St} {F1 H1 F2 H2 : Hp} (a : Xt F H F1 H1 σ) (b : Xt F1 H1 F2 H2 σ) : Xt F H F2 H2 σ :=
  ⟨a.sub.trans b.sub, a.same.trans b.same, fun c h1 h2 h3 => b.fr c (a.fr c h1 h2 h3) (Same.ne a.same h2) h3⟩
theorem same_new {o : HO} (h : H p = none) : Same H (upd H p o) := fun b x e => by rw [upd_ne (ne_of_none e h)]; exact e
theorem same_upd2 {o : HO} (s : Same F H) (hp : F p = none) : Same F (upd H p o) := fun b x e => by rw [upd_ne (ne_of_none e hp)]; exact s b x e
theorem same_updB {o : HO} (s : Same F H) : Same (upd F p o) (upd H p o) := fun b x e => by
  by_cases hb : b = p
  · subst hb; rw [upd_same] at e ⊢; exact e
  · rw [upd_ne hb] at e ⊢; exact s b x e
variable {env : VE} {σ : L2.St}
/-- the heap grows, and what is shared -/
theorem EnvOk.grow (k : EnvOk w F0 H0 F H env σ) (s : Same F F') (s' : Same F' H') (t : Same H H') (f : ∀ a, F' a ≠ none → F a ≠ none ∨ H a = none) : EnvOk w F0 H0 F' H' env σ where
  len := k.len
  slot := fun i sv e => by
    have h := k.slot i sv e
    cases sv with
    | none => exact h
    | some r =>
      obtain ⟨v, e1, h⟩ := h
      refine ⟨v, e1, ?_⟩
      unfold RepR at h ⊢
      split
      · rename_i hr
        rw [if_pos hr] at h
        obtain ⟨p, e2, h1, h2, h3⟩ := h
        refine ⟨p, e2, ?_, h2, h3.mono s t⟩
        cases q : F' p with
        | none => rfl
        | some o =>
          rcases f p (by rw [q]; exact fun z => nomatch z) with z | z
          · exact absurd h1 z
          · exact absurd z h3.there
      · rename_i hr
        rw [if_neg hr] at h
        exact h.mono s
  dist := k.dist
  refs := fun i a e => Same.ne t (k.refs i a e)
  sub0 := k.sub0.trans s
  sub := s'
  same := k.same.trans t
  fr := fun a h => by
    rcases f a h with z | z
    · exact k.fr a z
    · exact .inr (Same.free k.same z)
theorem EnvOk.growH (k : EnvOk w F0 H0 F H env σ) (t : Same H H') : EnvOk w F0 H0 F H' env σ := k.grow (Same.refl _) (k.sub.trans t) t fun a h => .inl h
theorem Xt.growH (t : Same H H') : Xt F H F H' σ := ⟨Same.refl _, t, fun _ h _ _ => h⟩
theorem EnvOk.noF (k : EnvOk w F0 H0 F H env σ) (h : H p = none) : F p = none := Same.free k.sub h
theorem EnvOk.new {o : HO} (k : EnvOk w F0 H0 F H env σ) (h : H p = none) : EnvOk w F0 H0 (upd F p o) (upd H p o) env σ :=
  k.grow (same_new (k.noF h)) (same_updB k.sub) (same_new h) fun a q => by
    by_cases e : a = p
    · subst e; exact .inr h
    · rw [upd_ne e] at q; exact .inl q
theorem Xt.new {o : HO} (k : EnvOk w F0 H0 F H env σ) (h : H p = none) : Xt F H (upd F p o) (upd H p o) σ :=
  ⟨same_new (k.noF h), same_new h, fun a h1 h2 _ => by
    have e : a ≠ p := fun e => by subst e; exact h2 h
    rw [upd_ne e]; exact h1⟩
/-- a slot's value is shared -/
theorem EnvOk.frz {i : Nat} {r : R} (k : EnvOk w F0 H0 F H env σ) (e : env[i]? = some (some r)) :
    ∃ v F', σ[i]? = some (some v) ∧ Xt F H F' H σ ∧ Rep w F' v r.2 ∧ EnvOk w F0 H0 F' H (env.set i (some (false, r.2))) σ := by
  obtain ⟨v, e1, h⟩ := k.slot i _ e
  have hi : i < env.length := (List.getElem?_eq_some_iff.mp e).1
  obtain ⟨o, dd⟩ := r
  cases o with
  | false =>
    unfold RepR at h
    rw [if_neg (by simp)] at h
    refine ⟨v, F, e1, .refl, h, ?_⟩
    have e2 : env.set i (some (false, dd)) = env := by
      apply List.ext_getElem?
      intro j
      by_cases hj : i = j
      · subst hj; rw [List.getElem?_set_self hi, e]
      · rw [List.getElem?_set_ne hj]
    show EnvOk w F0 H0 F H (env.set i (some (false, dd))) σ
    rw [e2]; exact k
  | true =>
    unfold RepR at h
    rw [if_pos rfl] at h
    obtain ⟨p, rfl, h1, h2, h3⟩ := h
    obtain ⟨ob, h4, h5⟩ := h3.frz h1
    have sF : Same F (upd F p ob) := same_new h1
    refine ⟨.ref p, upd F p ob, e1, ⟨sF, Same.refl _, fun a q1 q2 q3 => ?_⟩, h5, ?_⟩
    · have : a ≠ p := fun z => by subst z; exact q3 i e1
      rw [upd_ne this]; exact q1
    · refine ⟨by rw [List.length_set]; exact k.len, fun j sv ej => ?_, fun j l d1 d2 q hjl ej el => ?_, k.refs, k.sub0.trans sF, fun b x q => ?_, k.same, fun a q => ?_⟩
      · by_cases hj : i = j
        · subst hj
          rw [List.getElem?_set_self hi] at ej; cases ej
          exact ⟨_, e1, .fro h5⟩
        · rw [List.getElem?_set_ne hj] at ej
          have s := k.slot j sv ej
          cases sv with
          | none => exact s
          | some r =>
            obtain ⟨v', e', s⟩ := s
            refine ⟨v', e', ?_⟩
            obtain ⟨o', d'⟩ := r
            cases o' with
            | false =>
              unfold RepR at s ⊢
              rw [if_neg (by simp)] at s ⊢
              exact s.mono sF
            | true =>
              unfold RepR at s ⊢
              rw [if_pos rfl] at s ⊢
              obtain ⟨q, rfl, s1, s2, s3⟩ := s
              have hq : q ≠ p := fun z => by subst z; exact k.dist i j _ _ _ hj e ej e1 e'
              exact ⟨q, rfl, by rw [upd_ne hq]; exact s1, s2, s3.mono sF (Same.refl _)⟩
      · by_cases h1 : i = j
        · subst h1; rw [List.getElem?_set_self hi] at ej; simp at ej
        · by_cases h2 : i = l
          · subst h2; rw [List.getElem?_set_self hi] at el; simp at el
          · rw [List.getElem?_set_ne h1] at ej; rw [List.getElem?_set_ne h2] at el
            exact k.dist j l d1 d2 q hjl ej el
      · by_cases hb : b = p
        · subst hb; rw [upd_same] at q; cases q; exact h4
        · rw [upd_ne hb] at q; exact k.sub b x q
      · by_cases hb : a = p
        · subst hb; exact .inr h2
        · rw [upd_ne hb] at q; exact k.fr a q
/-- a slot is stored -/
theorem EnvOk.set {i : Nat} {r : R} {Hs : Hp} (k : EnvOk w F0 H0 F H env σ) (h : RepR w Hs F H v r) (hs : Same H0 Hs) (hr : ∀ (j : Nat) (a : Addr), σ[j]? = some (some (.ref a)) → Hs a ≠ none) : EnvOk w F0 H0 F H (env.set i (some r)) (σ.set i (some v)) := by
  have h' : RepR w H0 F H v r := by
    unfold RepR at h ⊢
    split
    · rename_i q; rw [if_pos q] at h
      obtain ⟨p, e, h1, h2, h3⟩ := h
      exact ⟨p, e, h1, Same.free hs h2, h3⟩
    · rename_i q; rw [if_neg q] at h; exact h
  have hl := k.len
  refine ⟨by rw [List.length_set, List.length_set]; exact k.len, fun j sv ej => ?_, fun j l d1 d2 q hjl ej el sj sl => ?_, fun j a ej => ?_, k.sub0, k.sub, k.same, k.fr⟩
  · by_cases hj : i = j
    · subst hj
      by_cases hi : i < env.length
      · rw [List.getElem?_set_self hi] at ej; cases ej
        exact ⟨v, by rw [List.getElem?_set_self (by omega)], h'⟩
      · rw [List.getElem?_eq_none (by rw [List.length_set]; omega)] at ej; cases ej
    · rw [List.getElem?_set_ne hj] at ej
      rw [List.getElem?_set_ne hj]
      exact k.slot j sv ej
  · have own : ∀ d (n : Nat), i = n → (env.set i (some r))[n]? = some (some (true, d)) → (σ.set i (some v))[n]? = some (some (.ref q)) → Hs q = none := fun d n hn en sn => by
      subst hn
      have hi : i < env.length := by
        have := (List.getElem?_eq_some_iff.mp en).1
        rw [List.length_set] at this; exact this
      rw [List.getElem?_set_self hi] at en
      rw [List.getElem?_set_self (by omega)] at sn
      cases en; cases sn
      unfold RepR at h
      rw [if_pos rfl] at h
      obtain ⟨p, e, h1, h2, h3⟩ := h
      cases e
      exact h2
    by_cases h1 : i = j
    · have hl2 : i ≠ l := fun z => hjl (h1.symm.trans z)
      have q1 := own d1 j h1 ej sj
      rw [List.getElem?_set_ne hl2] at sl
      exact hr l q sl q1
    · by_cases h2 : i = l
      · have q1 := own d2 l h2 el sl
        rw [List.getElem?_set_ne h1] at sj
        exact hr j q sj q1
      · rw [List.getElem?_set_ne h1] at ej sj; rw [List.getElem?_set_ne h2] at el sl
        exact k.dist j l d1 d2 q hjl ej el sj sl
  · by_cases hj : i = j
    · subst hj
      by_cases hi : i < σ.length
      · rw [List.getElem?_set_self hi] at ej
        cases ej
        unfold RepR at h'
        split at h'
        · obtain ⟨p, e, _, _, h3⟩ := h'
          cases e
          exact h3.there
        · have : F a ≠ none := by
            generalize r.2 = dd at h'
            cases h' with
            | tup e _ => rw [e]; exact fun z => nomatch z
            | lst e _ => exact Rd.ne e
            | dct e _ _ _ _ => rw [e]; exact fun z => nomatch z
          exact Same.ne k.sub this
      · rw [List.getElem?_eq_none (by rw [List.length_set]; omega)] at ej; cases ej
    · rw [List.getElem?_set_ne hj] at ej; exact k.refs j a ej
theorem EnvOk.setF {i : Nat} (k : EnvOk w F0 H0 F H env σ) (h : Rep w F v d) : EnvOk w F0 H0 F H (env.set i (some (false, d))) (σ.set i (some v)) :=
  k.set (Hs := H) (RepR.fro h) k.same k.refs
theorem EnvOk.none1 {i : Nat} (k : EnvOk w F0 H0 F H env σ) : EnvOk w F0 H0 F H (env.set i none) (σ.set i none) := by
  refine ⟨by rw [List.length_set, List.length_set]; exact k.len, fun j sv ej => ?_, fun j l d1 d2 q hjl ej el sj sl => ?_, fun j a ej => ?_, k.sub0, k.sub, k.same, k.fr⟩
  · by_cases hj : i = j
    · subst hj
      by_cases hi : i < env.length
      · rw [List.getElem?_set_self hi] at ej; cases ej
        exact List.getElem?_set_self (by have := k.len; omega)
      · rw [List.getElem?_eq_none (by rw [List.length_set]; omega)] at ej; cases ej
    · rw [List.getElem?_set_ne hj] at ej
      rw [List.getElem?_set_ne hj]
      exact k.slot j sv ej
  · by_cases h1 : i = j
    · subst h1
      have hi : i < env.length := by have := (List.getElem?_eq_some_iff.mp ej).1; rw [List.length_set] at this; exact this
      rw [List.getElem?_set_self hi] at ej; cases ej
    · by_cases h2 : i = l
      · subst h2
        have hi : i < env.length := by have := (List.getElem?_eq_some_iff.mp el).1; rw [List.length_set] at this; exact this
        rw [List.getElem?_set_self hi] at el; cases el
      · rw [List.getElem?_set_ne h1] at ej sj; rw [List.getElem?_set_ne h2] at el sl
        exact k.dist j l d1 d2 q hjl ej el sj sl
  · by_cases hj : i = j
    · subst hj
      by_cases hi : i < σ.length
      · rw [List.getElem?_set_self hi] at ej; cases ej
      · rw [List.getElem?_eq_none (by rw [List.length_set]; omega)] at ej; cases ej
    · rw [List.getElem?_set_ne hj] at ej; exact k.refs j a ej
theorem EnvOk.wipe (k : EnvOk w F0 H0 F H env σ) : ∀ vs : List Nat, EnvOk w F0 H0 F H (wipeE env vs) (L2.wipe σ vs)
  | [] => k
  | v :: vs => by
    show EnvOk w F0 H0 F H ((wipeE env vs).set v none) ((L2.wipe σ vs).set v none)
    exact (EnvOk.wipe k vs).none1
/-- the list or dict at an owned slot is changed -/
theorem EnvOk.write {i : Nat} {d' : D} {o : HO} (k : EnvOk w F0 H0 F H env σ) (e : env[i]? = some (some (true, d))) (e1 : σ[i]? = some (some (.ref p))) (h' : RepTop w F (upd H p o) p d') :
    EnvOk w F0 H0 F (upd H p o) (env.set i (some (true, d'))) σ := by
  obtain ⟨v, e2, h⟩ := k.slot i _ e
  rw [e1] at e2; cases e2
  unfold RepR at h
  rw [if_pos rfl] at h
  obtain ⟨q, eq, h1, h2, h3⟩ := h
  cases eq
  have hi : i < env.length := (List.getElem?_eq_some_iff.mp e).1
  have sH : ∀ b x, b ≠ p → H b = some x → upd H p o b = some x := fun b x hb q => by rw [upd_ne hb]; exact q
  refine ⟨by rw [List.length_set]; exact k.len, fun j sv ej => ?_, fun j l d1 d2 q hjl ej el => ?_, fun j a ej => ?_, k.sub0, same_upd2 k.sub h1, same_upd2 k.same h2, k.fr⟩
  · by_cases hj : i = j
    · subst hj
      rw [List.getElem?_set_self hi] at ej; cases ej
      exact ⟨_, e1, .own rfl h1 h2 h'⟩
    · rw [List.getElem?_set_ne hj] at ej
      have s := k.slot j sv ej
      cases sv with
      | none => exact s
      | some r =>
        obtain ⟨v', e', s⟩ := s
        refine ⟨v', e', ?_⟩
        obtain ⟨o', d'⟩ := r
        cases o' with
        | false =>
          unfold RepR at s ⊢
          rw [if_neg (by simp)] at s ⊢
          exact s
        | true =>
          unfold RepR at s ⊢
          rw [if_pos rfl] at s ⊢
          obtain ⟨q, rfl, s1, s2, s3⟩ := s
          have hq : q ≠ p := fun z => by subst z; exact k.dist i j _ _ _ hj e ej e1 e'
          refine ⟨q, rfl, s1, s2, ?_⟩
          cases d' with
          | lst ds => obtain ⟨xs, a, b⟩ := s3; exact ⟨xs, sH _ _ hq a, b⟩
          | dct ks vs => obtain ⟨x, y, z, a, b⟩ := s3; exact ⟨x, y, z, sH _ _ hq a, b⟩
          | _ => exact s3.elim
  · by_cases h1 : i = j
    · subst h1
      have hjl' : i ≠ l := hjl
      rw [List.getElem?_set_ne hjl'] at el
      rw [List.getElem?_set_self hi] at ej
      exact fun sj => k.dist i l _ d2 q hjl e el sj
    · by_cases h2 : i = l
      · subst h2
        rw [List.getElem?_set_ne h1] at ej
        exact fun sj sl => k.dist i j _ d1 q (fun z => hjl z.symm) e ej sl sj
      · rw [List.getElem?_set_ne h1] at ej; rw [List.getElem?_set_ne h2] at el
        exact k.dist j l d1 d2 q hjl ej el
  · have q := k.refs j a ej
    by_cases ha : a = p
    · subst ha; rw [upd_same]; exact fun z => nomatch z
    · rw [upd_ne ha]; exact q

/-- the same environment before and after: only new things were shared -/
theorem Xt.strong {env : VE} {σ : L2.St} {F' H' : Hp} (k : EnvOk w F0 H0 F H env σ) (k' : EnvOk w F0 H0 F' H' env σ) (x : Xt F H F' H' σ) : ∀ a, F' a ≠ none → F a ≠ none ∨ H a = none := fun a h => by
  by_cases h1 : F a = none
  · by_cases h2 : H a = none
    · exact .inr h2
    · refine absurd (x.fr a h1 h2 fun i e => ?_) h
      have hi : i < env.length := by rw [k.len]; exact (List.getElem?_eq_some_iff.mp e).1
      have s := k'.slot i _ (List.getElem?_eq_getElem hi)
      have s0 := k.slot i _ (List.getElem?_eq_getElem hi)
      cases q : env[i] with
      | none => rw [q] at s; have s' : σ[i]? = some none := s; rw [e] at s'; cases s'
      | some r =>
        rw [q] at s s0
        obtain ⟨v, e1, s⟩ := s
        obtain ⟨v0, e0, s0⟩ := s0
        rw [e] at e1 e0; cases e1; cases e0
        obtain ⟨o, d⟩ := r
        cases o with
        | true =>
          unfold RepR at s
          rw [if_pos rfl] at s
          obtain ⟨p, ep, s1, _, _⟩ := s
          cases ep
          exact h s1
        | false =>
          unfold RepR at s0
          rw [if_neg (by simp)] at s0
          generalize d = d' at s0
          cases s0 with
          | tup e2 _ => rw [e2] at h1; cases h1
          | lst e2 _ => exact Rd.ne e2 h1
          | dct e2 _ _ _ _ => rw [e2] at h1; cases h1
  · exact .inl h1
/-- an object of nobody's is changed -/
theorem EnvOk.updOut {env : VE} {σ : L2.St} {o : HO} (k : EnvOk w F0 H0 F H env σ) (h1 : F p = none) (h2 : H0 p = none) (h3 : ∀ i : Nat, σ[i]? ≠ some (some (.ref p))) : EnvOk w F0 H0 F (upd H p o) env σ where
  len := k.len
  slot := fun i sv e => by
    have h := k.slot i sv e
    cases sv with
    | none => exact h
    | some r =>
      obtain ⟨v, e1, h⟩ := h
      refine ⟨v, e1, ?_⟩
      obtain ⟨ow, d⟩ := r
      cases ow with
      | false => unfold RepR at h ⊢; rw [if_neg (by simp)] at h ⊢; exact h
      | true =>
        unfold RepR at h ⊢
        rw [if_pos rfl] at h ⊢
        obtain ⟨q, e2, s1, s2, s3⟩ := h
        subst e2
        have hq : q ≠ p := fun z => by subst z; exact h3 i e1
        refine ⟨q, rfl, s1, s2, ?_⟩
        cases d with
        | lst ds => obtain ⟨xs, a, b⟩ := s3; exact ⟨xs, by rw [upd_ne hq]; exact a, b⟩
        | dct ks vs => obtain ⟨x, y, z, a, b⟩ := s3; exact ⟨x, y, z, by rw [upd_ne hq]; exact a, b⟩
        | _ => exact s3.elim
  dist := k.dist
  refs := fun i a e => by
    have q := k.refs i a e
    by_cases ha : a = p
    · subst ha; rw [upd_same]; exact fun z => nomatch z
    · rw [upd_ne ha]; exact q
  sub0 := k.sub0
  sub := same_upd2 k.sub h1
  same := same_upd2 k.same h2
  fr := k.fr
theorem EnvOk.frzL {σ : L2.St} : ∀ {is : List Nat} {env : VE} {F : Hp}, EnvOk w F0 H0 F H env σ → ∃ F', Xt F H F' H σ ∧ EnvOk w F0 H0 F' H (Vi.frzL env is) σ
  | [], env, F, k => ⟨F, .refl, k⟩
  | i :: is, env, F, k => by
    have h1 : ∃ F', Xt F H F' H σ ∧ EnvOk w F0 H0 F' H (frz1 env i) σ := by
      unfold frz1
      split
      · rename_i r e
        obtain ⟨v, F', _, x, _, k'⟩ := k.frz e
        exact ⟨F', x, k'⟩
      · exact ⟨F, .refl, k⟩
    obtain ⟨F1, x1, k1⟩ := h1
    obtain ⟨F2, x2, k2⟩ := EnvOk.frzL (is := is) k1
    exact ⟨F2, x1.trans x2, k2⟩
end
end Vi
set_option Elab.async false
set_option linter.all false
set_option maxRecDepth 100000
/-! ViC: expressions, by their meanings. -/
namespace L2
open PySem PySem.Spec PyProof.Rows
theorem PE.imp {X : Cx} {e : Expr} {t t' : TE} (h : PE X e t) (f : ∀ σ H Q, t' σ H Q → t σ H Q) : PE X e t' := ⟨fun pins s σ H Q I q => h.run pins s σ H Q I (f σ H Q q)⟩
theorem PT.imp {X : Cx} {e : Expr} {t t' : TT} (h : PT X e t) (f : ∀ σ H Q, t' σ H Q → t σ H Q) : PT X e t' := ⟨fun pins s σ H Q I q => h.run pins s σ H Q I (f σ H Q q)⟩
theorem PA.imp {X : Cx} {es : List Expr} {t t' : TA} (h : PA X es t) (f : ∀ σ H Q, t' σ H Q → t σ H Q) : PA X es t' := ⟨fun pos pins s σ H Q I q => h.run pos pins s σ H Q I (f σ H Q q)⟩
theorem PI.imp {X : Cx} {tg e : Expr} {t t' : TI} (h : PI X tg e t) (f : ∀ σ H Q, t' σ H Q → t σ H Q) : PI X tg e t' := ⟨fun pins s σ H Q I q => h.run pins s σ H Q I (f σ H Q q)⟩
theorem PS.imp {X : Cx} {st : Stmt} {t t' : TS} (h : PS X st t) (f : ∀ D σ H, t' D σ H → t D σ H) : PS X st t' := ⟨fun pins s σ H D I q => h.run pins s σ H D I (f D σ H q)⟩
theorem PSs.imp {X : Cx} {st : List Stmt} {t t' : TS} (h : PSs X st t) (f : ∀ D σ H, t' D σ H → t D σ H) : PSs X st t' := ⟨fun pins s σ H D I q => h.run pins s σ H D I (f D σ H q)⟩

end L2
namespace Vi
open PySem PySem.Spec PyProof.Rows L2

/-- what is promised of a def with n parameters -/
def spOf (w : World) (n : Nat) (c : Ctr) : Sp := fun vs H Q _ => ∃ F ds P, ds.length = n ∧ Same F H ∧ Reps w F vs ds ∧ c ds P (fun _ => False) ∧
  ∀ r, P r → ∀ v F' H', Same F F' → Same F' H' → Same H H' → (∀ a, F' a ≠ none → F a ≠ none ∨ H a = none) → RepR w H F' H' v r → Q v H'
/-- the builtins' names that are used -/
def bnames : List Str := ["len", "int", "tuple", "list", "max", "min", "abs", "isinstance", "range", "bool", "str", "dict"]
/-- where a code runs -/
structure Cok (X : Cx) (N : List Str) (G : Str → Option (Nat × Ctr)) (k : Nat) (sc : Scope) : Prop where
  nm : X.N = N
  nd : N.Nodup
  scp : X.env.scope = sc
  calm : X.calm = true
  room : Room k X.A
  free : ∀ x ∈ bnames, X.mg x = none
  calls : ∀ f c, G f = some c → ∃ (fa : Addr) (fd : FuncData) (j : Nat) (ps : List Str), X.mg f = some (.ref fa) ∧ PySem.W.keepIn X.K (.ref fa) = true ∧ Binds X.K fd ps [] ∧ j ≤ k ∧ ps.length = c.1 ∧ FnOk X.prog X.w X.K X.mg X.base CX0 j fa fd ps (spOf X.w c.1 c.2)

abbrev EF : XD → VE → Prop := fun _ _ => False
section
variable (w : World) (G : Str → Option (Nat × Ctr)) (F0 H0 : Hp)
def tE (ex : Ex) : TE := fun σ H Q => ∃ F env P, EnvOk w F0 H0 F H env σ ∧ wE G EF ex env P ∧
  ∀ r e', P r e' → ∀ v F' H', Xt F H F' H' σ → RepR w H F' H' v r → EnvOk w F0 H0 F' H' e' σ → Q v H'
def tB (ex : Ex) : TE := fun σ H Q => ∃ F env P, EnvOk w F0 H0 F H env σ ∧ bor ex (wE G EF ex) env P ∧
  ∀ d e', P d e' → ∀ v F' H', Xt F H F' H' σ → RepW w F' H' v d → EnvOk w F0 H0 F' H' e' σ → Q v H'
def tEs (es : Exs) : TA := fun σ H Q => ∃ F env P, EnvOk w F0 H0 F H env σ ∧ wEs G EF es env P ∧
  ∀ ds e', P ds e' → ∀ vs F' H', Xt F H F' H' σ → Reps w F' vs ds → EnvOk w F0 H0 F' H' e' σ → Q vs H'
def tOx (ex : Ox) : TO := fun σ H Q => ∃ F env P, EnvOk w F0 H0 F H env σ ∧ wO G EF ex env P ∧
  ∀ r e', P r e' → ∀ F' H', Xt F H F' H' σ → EnvOk w F0 H0 F' H' e' σ → Q r H'
def tTx (t : Tx) : TT := fun σ H Q => ∃ F env P, EnvOk w F0 H0 F H env σ ∧ wT G EF t env P ∧
  ∀ b e', P b e' → ∀ F' H', Xt F H F' H' σ → EnvOk w F0 H0 F' H' e' σ → Q b H'
/-- J yields these, as long as B stands -/
structure ItRep (w : World) (B F : Hp) (J : It) (items : List D) : Prop where
  go : ∀ (i : Nat) d H', items[i]? = some d → Same B H' → J.go i H'
  yld : ∀ (i : Nat) d x H' H'', items[i]? = some d → Same B H' → J.yld i H' x H'' → Same H' H'' ∧ ∀ F', Same F F' → Same F' H' →
    ∃ F'', Same F' F'' ∧ Same F'' H'' ∧ (∀ a, F'' a ≠ none → F' a ≠ none ∨ H' a = none) ∧ Rep w F'' x d
  stop : ∀ H', Same B H' → J.stop items.length H'
def tIt (it : Vi.Itx) : TI := fun σ H R => ∃ F env P, EnvOk w F0 H0 F H env σ ∧ wI G EF it env P ∧
  ∀ items e', P items e' → ∀ J F' H', Xt F H F' H' σ → ItRep w H' F' J items → EnvOk w F0 H0 F' H' e' σ → R J H'
end

section
variable {X : Cx} {N : List Str} {G : Str → Option (Nat × Ctr)} {k : Nat} {sc : Scope} {F0 H0 : Hp} {e a b c : Expr} {pos : Pos}
/-! ### closing -/
/-- what is left behind the parts of an expression -/
structure Fin (w : World) (F0 H0 Fi Hi F H : Hp) (e2 : VE) (σ : L2.St) (P : R → VE → Prop) (Q : VK) : Prop where
  ok : EnvOk w F0 H0 F H e2 σ
  xt : Xt Fi Hi F H σ
  fin : ∀ r e', P r e' → ∀ v F' H', Xt Fi Hi F' H' σ → RepR w Hi F' H' v r → EnvOk w F0 H0 F' H' e' σ → Q v H'
section
variable {w : World} {Fi Hi F H : Hp} {e2 : VE} {σ : L2.St} {P : R → VE → Prop} {Q : VK} {v : V} {d : D} {xs : List V} {ds : List D} {p : Addr}
theorem Fin.val (f : Fin w F0 H0 Fi Hi F H e2 σ P Q) (h : P (false, d) e2) (r : Rep w F v d) : Q v H := f.fin _ _ h v F H f.xt (.fro r) f.ok
theorem Fin.tup (f : Fin w F0 H0 Fi Hi F H e2 σ P Q) (h : P (false, .tup ds) e2) (r : Reps w F xs ds) (hp : H p = none) : Q (.ref p) (upd H p (.tup xs)) :=
  f.fin _ _ h _ (upd F p (.tup xs)) _ (f.xt.trans (.new f.ok hp)) (.fro (.tup upd_same (r.mono (same_new (f.ok.noF hp))))) (f.ok.new hp)
theorem Fin.lst (f : Fin w F0 H0 Fi Hi F H e2 σ P Q) (h : P (true, .lst ds) e2) (r : Reps w F xs ds) (hp : H p = none) : Q (.ref p) (upd H p (.lst xs)) :=
  f.fin _ _ h _ F _ (f.xt.trans (.growH (same_new hp))) (.own rfl (f.ok.noF hp) (Same.free f.xt.same hp) ⟨xs, upd_same, r⟩) (f.ok.growH (same_new hp))
end

/-! ### list + list, list * int, of lists that are read -/
section
variable {X : Cx}
theorem Rd.its {X : Cx} {pins : List (Addr × Obj)} {σ : L2.St} {H : Hp} {s : Shared} {l : Addr} {xs : List V} (I : Inv X pins σ H s) (h : Rd H l (.lst xs)) :
    ∃ (its : List Value) (n : Nat), Vals xs its ∧ xs.length = its.length ∧ s.heap.get? l = some { cls := .type "list", data := .seq its.toArray n } := by
  obtain ⟨_, its, n, r, e⟩ := h.ok I.hok
  exact ⟨its, n, r, r.length, e⟩
theorem op_catR : OpR X (binaryOp .Add) fun x y H Q => ∃ l b xs zs, x = .ref l ∧ y = .ref b ∧ Rd H l (.lst xs) ∧ Rd H b (.lst zs) ∧ xs.length + zs.length ≤ sizeLine ∧ ∀ p, H p = none → Q (.ref p) (upd H p (.lst (xs ++ zs))) := by
  rintro pins s σ H x y v u Q I rx ry ⟨l, b, xs, zs, rfl, rfl, hl, hb, hz, q⟩
  cases rx; cases ry
  obtain ⟨vs, n, r, el, e⟩ := Rd.its I hl
  obtain ⟨us, m, r2, eb, e2⟩ := Rd.its I hb
  refine PySem.P.add_list e e2 ?_ (by rw [List.size_toArray, List.size_toArray]; omega)
  rw [show vs.toArray ++ us.toArray = (vs ++ us).toArray by simp]
  exact ⟨.ref _, _, I.lnew (t' := s.toks) (r.append r2) (by rw [List.length_append]; exact hz), rfl, q _ I.fresh⟩
theorem op_repR : OpR X (binaryOp .Mult) fun x y H Q => ∃ l k xs, x = .ref l ∧ y = .int k ∧ Rd H l (.lst xs) ∧ -(2 ^ 63) ≤ k ∧ k < 2 ^ 63 ∧ xs.length * k.toNat ≤ sizeLine ∧ ∀ p, H p = none → Q (.ref p) (upd H p (.lst (List.replicate k.toNat xs).flatten)) := by
  rintro pins s σ H x y v u Q I rx ry ⟨l, k, xs, rfl, rfl, hl, k1, k2, hz, q⟩
  cases rx
  obtain ⟨t, rfl⟩ := ry
  obtain ⟨vs, n, r, el, e⟩ := Rd.its I hl
  have z : vs.toArray.size * k.toNat ≤ sizeLine := by rw [List.size_toArray, ← el]; exact hz
  have c1 : ¬ vs.toArray.size * k.toNat > (2 ^ 63 - 1) / 8 := by have : (sizeLine : Nat) ≤ (2 ^ 63 - 1) / 8 := by decide
                                                                 omega
  have c2 : ¬ (!Builtin.List.listFitsIndex k) = true := by rw [fitsIndex_both k1 k2]; exact Bool.false_ne_true
  have c3 : ¬ Builtin.List.listTooLong (vs.toArray.size * k.toNat) = true := by rw [notLongL z]; exact Bool.false_ne_true
  have c4 : List.foldl (fun x1 x2 => x1 ++ x2) #[] (List.replicate (if vs.toArray.isEmpty = true then 0 else k.toNat) vs.toArray) = (List.replicate k.toNat vs).flatten.toArray := by
    have g : ∀ m : Nat, List.foldl (fun x1 x2 => x1 ++ x2) #[] (List.replicate m vs.toArray) = (List.replicate m vs).flatten.toArray := fun m => by simpa using foldl_rep vs m []
    rw [g]
    cases vs with
    | nil => simp
    | cons _ _ => rw [if_neg (by simp)]
  refine wpAny_binaryOp_repeat_ref (T := "list") (U := "int") (by decide) ⟨_, e, rfl⟩ (fun z => typeIs_int z k t) noFill_list_mul F.fills_int_mul
    F.slot_int_rmul repeat_list F.slot_int_index.lookup (call_meets F.slot_int_rmul (typeIs_int s k t) F.entry_int_rmul (F.args_int_rmul_2 _ _) (int___rmul___int_list k t l vs.toArray n)
      ⟨e, rfl, ⟨_, e, rfl⟩, call_meets F.slot_list_mul ⟨_, e, rfl⟩ F.entry_list_mul (F.args_list_mul_2 _ _) (AutoListH.list___mul___list_int_3 l vs.toArray n k t c2 c1 c3) ⟨e, ?_⟩⟩)
  rw [c4]
  have hz' : (List.replicate k.toNat xs).flatten.length ≤ sizeLine := by rw [PyProof.Rows.lm_len_rep_flat, Nat.mul_comm]; exact hz
  exact ⟨.ref _, _, I.lnew (t' := s.toks) (r.rep k.toNat) hz', rfl, q _ I.fresh⟩
end
/-! ### what is read -/
section
variable {w : World} {F H : Hp} {v u : V} {d : D} {ds : List D} {K : PySem.W.Frag}
theorem RepW.lst (h : RepW w F H v (.lst ds)) (s : Same F H) : ∃ p xs, v = .ref p ∧ Rd H p (.lst xs) ∧ Reps w F xs ds := by
  rcases h with h | ⟨p, e, xs, h, r⟩
  · cases h with | lst e r => exact ⟨_, _, rfl, Rd.mono s e, r⟩
  · exact ⟨p, xs, e, .inl h, r⟩
theorem RepW.tup (h : RepW w F H v (.tup ds)) (s : Same F H) : ∃ p xs, v = .ref p ∧ F p = some (.tup xs) ∧ H p = some (.tup xs) ∧ Reps w F xs ds := by
  rcases h with h | ⟨p, e, h⟩
  · cases h with | tup e r => exact ⟨_, _, rfl, e, s _ _ e, r⟩
  · exact h.elim
theorem RepW.int {i : Int} (h : RepW w F H v (.int i)) : v = .int i := by
  rcases h with h | ⟨p, e, h⟩
  · cases h; rfl
  · exact h.elim
theorem RepW.bl {i : Bool} (h : RepW w F H v (.bl i)) : v = .bl i := by
  rcases h with h | ⟨p, e, h⟩
  · cases h; rfl
  · exact h.elim
theorem RepW.non (h : RepW w F H v .non) : v = .non := by
  rcases h with h | ⟨p, e, h⟩
  · cases h; rfl
  · exact h.elim
theorem RepW.str {x : Str} (h : RepW w F H v (.str x)) : v = .str x := by
  rcases h with h | ⟨p, e, h⟩
  · cases h; rfl
  · exact h.elim
end
mutual
theorem Rep.dp {w : World} {F H : Hp} {K : PySem.W.Frag} (s : Same F H) : ∀ {d : D} {v : V} {q : PyData}, Rep w F v d → py d = some q → Dp K H v q
  | .non, _, _, .non, e => by simp only [py, Option.some.injEq] at e; subst e; exact .non
  | .bl b, _, _, .bl _, e => by simp only [py, Option.some.injEq] at e; subst e; exact .bl b
  | .int i, _, _, .int _, e => by simp only [py, Option.some.injEq] at e; subst e; exact .int i
  | .str x, _, _, .str _, e => by simp only [py, Option.some.injEq] at e; subst e; exact .str x
  | .ty _, _, _, .ty _, e => by simp [py] at e
  | .tup ds, _, _, .tup h r, e => by
    simp only [py, Option.map_eq_some_iff] at e
    obtain ⟨qs, e1, rfl⟩ := e
    exact .tup (.of (s _ _ h)) (Reps.dp s r e1)
  | .lst ds, _, _, .lst h r, e => by
    simp only [py, Option.map_eq_some_iff] at e
    obtain ⟨qs, e1, rfl⟩ := e
    exact .lst (.inl (Rd.mono s h)) (Reps.dp s r e1)
  | .dct _ _, _, _, .dct _ _ _ _ _, e => by simp [py] at e
theorem Reps.dp {w : World} {F H : Hp} {K : PySem.W.Frag} (s : Same F H) : ∀ {ds : List D} {vs : List V} {qs : List PyData}, Reps w F vs ds → pys ds = some qs → DpAll K H vs qs
  | [], _, _, .nil, e => by simp only [pys, Option.some.injEq] at e; subst e; exact .nil
  | d :: ds, _, _, .cons r t, e => by
    simp only [pys, Option.bind_eq_some_iff, Option.map_eq_some_iff] at e
    obtain ⟨q, e1, qs, e2, rfl⟩ := e
    exact .cons (Rep.dp s r e1) (Reps.dp s t e2)
end
theorem RepW.dp {w : World} {F H : Hp} {K : PySem.W.Frag} {d : D} {v : V} {q : PyData} (h : RepW w F H v d) (s : Same F H) (e : py d = some q) : Dp K H v q := by
  rcases h with h | ⟨p, rfl, h⟩
  · exact h.dp s e
  · cases d with
    | lst ds =>
      obtain ⟨xs, h1, r⟩ := h
      simp only [py, Option.map_eq_some_iff] at e
      obtain ⟨qs, e1, rfl⟩ := e
      exact .lst (.of h1) (Reps.dp s r e1)
    | dct _ _ => simp [py] at e
    | _ => exact h.elim
theorem Reps.atI {w : World} {F : Hp} {xs : List V} {ds : List D} {i : Int} {d : D} (r : Reps w F xs ds) (h : L2.atI ds i = some d) : ∃ v, L2.atI xs i = some v ∧ Rep w F v d := by
  unfold L2.atI at h ⊢
  rw [r.length]
  cases q : ixN ds.length i with
  | none => rw [q] at h; cases h
  | some j =>
    rw [q] at h
    obtain ⟨v, e, rv⟩ := r.get (show ds[j]? = some d from h)
    exact ⟨v, e, rv⟩
theorem Reps.cut {w : World} {F : Hp} {xs : List V} {ds : List D} (r : Reps w F xs ds) (lo hi : Option Int) : Reps w F (cutV xs lo hi) (cutD ds lo hi) := by
  unfold cutV cutD
  rw [r.length]
  exact (r.drop _).take _
theorem Reps.allI {w : World} {F : Hp} : ∀ {xs : List V} {ds : List D} {ns : List Int}, Reps w F xs ds → allI ds = some ns → xs = ns.map V.int
  | _, [], ns, .nil, e => by simp only [Vi.allI, Option.some.injEq] at e; subst e; rfl
  | _, d :: ds, ns, .cons r t, e => by
    cases d with
    | int i =>
      simp only [Vi.allI, Option.map_eq_some_iff] at e
      obtain ⟨ms, e1, rfl⟩ := e
      cases r
      rw [Reps.allI t e1]; rfl
    | _ => simp [Vi.allI] at e

/-! ### names and constants -/
theorem se_var {i : Nat} {x : Str} (C : Cok X N G k sc) (hN : N[i]? = some x) (hv : Vis sc x) (hd : (x == ("__debug__" : Str)) = false) (hcd : (x == ("__classdict__" : Str)) = false) : PE X (.Name x pos) (tE X.w G F0 H0 (.var i)) := by
  refine (pe_var (i := i) (by rw [C.nm]; exact hN) (by rw [C.scp]; exact hv) hd hcd).imp fun σ H Q h => ?_
  obtain ⟨F, env, P, ok, hw, fin⟩ := h
  simp only [wE] at hw
  split at hw
  · rename_i r er
    obtain ⟨v, F', e1, xt, rp, ok'⟩ := ok.frz er
    exact ⟨v, e1, fin _ _ hw v F' H xt (.fro rp) ok'⟩
  · exact hw.elim
theorem sb_var {i : Nat} {x : Str} (C : Cok X N G k sc) (hN : N[i]? = some x) (hv : Vis sc x) (hd : (x == ("__debug__" : Str)) = false) (hcd : (x == ("__classdict__" : Str)) = false) : PE X (.Name x pos) (tB X.w G F0 H0 (.var i)) := by
  refine (pe_var (i := i) (by rw [C.nm]; exact hN) (by rw [C.scp]; exact hv) hd hcd).imp fun σ H Q h => ?_
  obtain ⟨F, env, P, ok, hw, fin⟩ := h
  simp only [bor] at hw
  split at hw
  · rename_i r er
    obtain ⟨v, e1, rp⟩ := ok.slot i _ er
    exact ⟨v, e1, fin _ _ hw v F H .refl rp.asW ok⟩
  · exact hw.elim
def isVar : Ex → Bool
  | .var _ => true
  | _ => false
theorem sb_of {ex : Ex} (h : PE X e (tE X.w G F0 H0 ex)) (hv : isVar ex = false) : PE X e (tB X.w G F0 H0 ex) := by
  refine h.imp fun σ H Q q => ?_
  obtain ⟨F, env, P, ok, hw, fin⟩ := q
  refine ⟨F, env, fun r e => P r.2 e, ok, ?_, fun r e' h v F' H' xt rp ok' => fin _ _ h v F' H' xt rp.asW ok'⟩
  cases ex <;> first | exact hw | cases hv
theorem se_const {ex : Ex} {v : V} {d : D} (h : PE X e (tC v)) (hw : ∀ env P, wE G EF ex env P → P (false, d) env) (hr : ∀ F, Rep X.w F v d) : PE X e (tE X.w G F0 H0 ex) := by
  refine h.imp fun σ H Q q => ?_
  obtain ⟨F, env, P, ok, hw', fin⟩ := q
  exact fin _ _ (hw _ _ hw') v F H .refl (.fro (hr F)) ok

/-! ### lists of expressions -/
theorem sa_nil : PA X [] (tEs X.w G F0 H0 .nil) := pa_nil.imp fun σ H Q ⟨F, env, P, ok, hw, fin⟩ => fin _ _ hw [] F H .refl .nil ok
/-- an own result is shared -/
theorem share {w : World} {F0 H0 Fi Hi F H : Hp} {e2 : VE} {σ : L2.St} {r : R} {v : V} (ok : EnvOk w F0 H0 F H e2 σ) (rp : RepR w Hi F H v r) (hs : Same H0 Hi) (hr : ∀ (j : Nat) (a : Addr), σ[j]? = some (some (.ref a)) → Hi a ≠ none) (xt : Xt Fi Hi F H σ) :
    ∃ F', Xt Fi Hi F' H σ ∧ Rep w F' v r.2 ∧ EnvOk w F0 H0 F' H e2 σ := by
  obtain ⟨o, d⟩ := r
  cases o with
  | false =>
    unfold RepR at rp
    rw [if_neg (by simp)] at rp
    exact ⟨F, xt, rp, ok⟩
  | true =>
    unfold RepR at rp
    rw [if_pos rfl] at rp
    obtain ⟨p, rfl, h1, h2, h3⟩ := rp
    obtain ⟨ob, h4, h5⟩ := h3.frz h1
    have sF : Same F (upd F p ob) := same_new h1
    refine ⟨upd F p ob, ⟨xt.sub.trans sF, xt.same, fun a q1 q2 q3 => ?_⟩, h5, ?_⟩
    · have e : a ≠ p := fun z => by subst z; exact q2 h2
      rw [upd_ne e]; exact xt.fr a q1 q2 q3
    · refine ⟨ok.len, fun j sv ej => ?_, ok.dist, ok.refs, ok.sub0.trans sF, fun b x q => ?_, ok.same, fun a q => ?_⟩
      · have s := ok.slot j sv ej
        cases sv with
        | none => exact s
        | some r =>
          obtain ⟨v', e', s⟩ := s
          refine ⟨v', e', ?_⟩
          obtain ⟨o', d'⟩ := r
          cases o' with
          | false =>
            unfold RepR at s ⊢
            rw [if_neg (by simp)] at s ⊢
            exact s.mono sF
          | true =>
            unfold RepR at s ⊢
            rw [if_pos rfl] at s ⊢
            obtain ⟨q, rfl, s1, s2, s3⟩ := s
            have hq : q ≠ p := fun z => by subst z; exact hr j _ e' h2
            exact ⟨q, rfl, by rw [upd_ne hq]; exact s1, s2, s3.mono sF (Same.refl _)⟩
      · by_cases hb : b = p
        · subst hb; rw [upd_same] at q; cases q; exact h4
        · rw [upd_ne hb] at q; exact ok.sub b x q
      · by_cases hb : a = p
        · subst hb; exact .inr (Same.free hs h2)
        · rw [upd_ne hb] at q; exact ok.fr a q
theorem sa_cons {ex : Ex} {exs : Exs} {es : List Expr} (ha : PE X e (tE X.w G F0 H0 ex)) (hr : PA X es (tEs X.w G F0 H0 exs)) (hs : starEach (e :: es) X.env = (false, eval e X.env) :: starEach es X.env) : PA X (e :: es) (tEs X.w G F0 H0 (.cons ex exs)) := by
  refine (pa_cons ha hr hs).imp fun σ H Q h => ?_
  obtain ⟨F, env, P, ok, hw, fin⟩ := h
  simp only [wEs] at hw
  refine ⟨F, env, _, ok, hw, fun r e1 h1 v F1 H1 xt1 rp1 ok1 => ?_⟩
  obtain ⟨F1', xt1', rp1', ok1'⟩ := share ok1 rp1 ok.same ok.refs xt1
  refine ⟨F1', e1, _, ok1', h1, fun ds e2 h2 vs F2 H2 xt2 rp2 ok2 => ?_⟩
  exact fin _ _ h2 (v :: vs) F2 H2 (xt1'.trans xt2) (.cons (rp1'.mono xt2.sub) rp2) ok2
theorem se_tup {es : List Expr} {exs : Exs} {x1} (h : PA X es (tEs X.w G F0 H0 exs)) : PE X (.Tuple es x1 pos) (tE X.w G F0 H0 (.tup exs)) := by
  refine (pe_tup h).imp fun σ H Q q => ?_
  obtain ⟨F, env, P, ok, hw, fin⟩ := q
  simp only [wE] at hw
  refine ⟨F, env, _, ok, hw, fun ds e1 ⟨hz, h1⟩ vs F1 H1 xt1 rp1 ok1 => ⟨by rw [rp1.length]; exact hz, fun p hp => ?_⟩⟩
  exact Fin.tup ⟨ok1, xt1, fin⟩ h1 rp1 hp
theorem se_lst {es : List Expr} {exs : Exs} (h : PA X es (tEs X.w G F0 H0 exs)) : PE X (.List es pos) (tE X.w G F0 H0 (.lst exs)) := by
  refine (pe_lst h).imp fun σ H Q q => ?_
  obtain ⟨F, env, P, ok, hw, fin⟩ := q
  simp only [wE] at hw
  refine ⟨F, env, _, ok, hw, fun ds e1 ⟨hz, h1⟩ vs F1 H1 xt1 rp1 ok1 => ⟨by rw [rp1.length]; exact hz, fun p hp => ?_⟩⟩
  exact Fin.lst ⟨ok1, xt1, fin⟩ h1 rp1 hp

/-! ### operators -/
/-- two operands, by their values -/
theorem two {w : World} {x y : Ex} {σ : L2.St} {H : Hp} {Fi : Hp} {env : VE} {R' : V → V → Hp → Prop} {S : D → D → VE → Prop} (ok : EnvOk w F0 H0 Fi H env σ)
    (hw : bor x (wE G EF x) env fun dx e1 => bor y (wE G EF y) e1 fun dy e2 => S dx dy e2)
    (fin : ∀ dx dy e2 v u F2 H2, S dx dy e2 → Xt Fi H F2 H2 σ → EnvOk w F0 H0 F2 H2 e2 σ → RepW w F2 H2 v dx → RepW w F2 H2 u dy → R' v u H2) :
    tB w G F0 H0 x σ H fun v H1 => tB w G F0 H0 y σ H1 fun u H2 => R' v u H2 :=
  ⟨Fi, env, _, ok, hw, fun dx e1 h1 v F1 H1 xt1 rp1 ok1 => ⟨F1, e1, _, ok1, h1, fun dy e2 h2 u F2 H2 xt2 rp2 ok2 => fin dx dy e2 v u F2 H2 h2 (xt1.trans xt2) ok2 (rp1.mono xt2.sub xt2.same) rp2⟩⟩
def opOf : Bo → Operator
  | .add => .Add
  | .sub => .Sub
  | .mul => .Mult
  | .fdiv => .FloorDiv
  | .mod => .Mod
  | .pow => .Pow
theorem se_bin {x y : Ex} (o : Bo) (ha : PE X a (tB X.w G F0 H0 x)) (hb : PE X b (tB X.w G F0 H0 y)) : PE X (.BinOp a (opOf o) b pos) (tE X.w G F0 H0 (.bin o x y)) := by
  cases o with
  | add =>
    refine (pe_op ((op_add.or op_catT).or op_catR) ha hb).imp fun σ H Q ⟨F, env, P, ok, hw, fin⟩ => two ok hw fun dx dy e2 v u F2 H2 h xt ok2 rx ry => ?_
    have f : Fin X.w F0 H0 F H F2 H2 e2 σ P Q := ⟨ok2, xt, fin⟩
    cases dx <;> cases dy <;> first | exact h.elim | skip
    · cases rx.int; cases ry.int
      exact .inl (.inl ⟨_, _, rfl, rfl, f.val h (.int _)⟩)
    · obtain ⟨p, xs, rfl, e1, e2', r1⟩ := rx.tup ok2.sub
      obtain ⟨q, ys, rfl, e3, e4, r2⟩ := ry.tup ok2.sub
      obtain ⟨hne, hz, h⟩ := h
      refine .inl (.inr ⟨p, q, xs, ys, rfl, rfl, .of e2', .of e4, fun z => hne ?_, by rw [r1.length, r2.length]; exact hz, fun z => ?_, fun _ t ht => ?_⟩)
      · subst z; cases r1; rfl
      · subst z; cases r2
        rw [List.append_nil] at h
        exact f.val h (.tup e1 r1)
      · exact f.tup h (r1.append r2) ht
    · obtain ⟨p, xs, rfl, e1, r1⟩ := rx.lst ok2.sub
      obtain ⟨q, ys, rfl, e3, r2⟩ := ry.lst ok2.sub
      obtain ⟨hz, h⟩ := h
      exact .inr ⟨p, q, xs, ys, rfl, rfl, e1, e3, by rw [r1.length, r2.length]; exact hz, fun t ht => f.lst h (r1.append r2) ht⟩
  | sub =>
    refine (pe_op op_sub ha hb).imp fun σ H Q ⟨F, env, P, ok, hw, fin⟩ => two ok hw fun dx dy e2 v u F2 H2 h xt ok2 rx ry => ?_
    have f : Fin X.w F0 H0 F H F2 H2 e2 σ P Q := ⟨ok2, xt, fin⟩
    cases dx <;> cases dy <;> first | exact h.elim | skip
    cases rx.int; cases ry.int
    exact ⟨_, _, rfl, rfl, f.val h (.int _)⟩
  | mul =>
    refine (pe_op (op_mul.or op_repR) ha hb).imp fun σ H Q ⟨F, env, P, ok, hw, fin⟩ => two ok hw fun dx dy e2 v u F2 H2 h xt ok2 rx ry => ?_
    have f : Fin X.w F0 H0 F H F2 H2 e2 σ P Q := ⟨ok2, xt, fin⟩
    cases dx <;> cases dy <;> first | exact h.elim | skip
    · cases rx.int; cases ry.int
      exact .inl ⟨_, _, rfl, rfl, h.1, f.val h.2 (.int _)⟩
    · obtain ⟨p, xs, rfl, e1, r1⟩ := rx.lst ok2.sub
      cases ry.int
      obtain ⟨h1, h2, h3, h⟩ := h
      exact .inr ⟨p, _, xs, rfl, rfl, e1, h1, h2, by rw [r1.length]; exact h3, fun t ht => f.lst h (r1.rep _) ht⟩
  | fdiv =>
    refine (pe_op op_fdiv ha hb).imp fun σ H Q ⟨F, env, P, ok, hw, fin⟩ => two ok hw fun dx dy e2 v u F2 H2 h xt ok2 rx ry => ?_
    have f : Fin X.w F0 H0 F H F2 H2 e2 σ P Q := ⟨ok2, xt, fin⟩
    cases dx <;> cases dy <;> first | exact h.elim | skip
    cases rx.int; cases ry.int
    exact ⟨_, _, rfl, rfl, h.1, f.val h.2 (.int _)⟩
  | mod =>
    refine (pe_op op_mod ha hb).imp fun σ H Q ⟨F, env, P, ok, hw, fin⟩ => two ok hw fun dx dy e2 v u F2 H2 h xt ok2 rx ry => ?_
    have f : Fin X.w F0 H0 F H F2 H2 e2 σ P Q := ⟨ok2, xt, fin⟩
    cases dx <;> cases dy <;> first | exact h.elim | skip
    cases rx.int; cases ry.int
    exact ⟨_, _, rfl, rfl, h.1, f.val h.2 (.int _)⟩
  | pow =>
    refine (pe_op op_pow ha hb).imp fun σ H Q ⟨F, env, P, ok, hw, fin⟩ => two ok hw fun dx dy e2 v u F2 H2 h xt ok2 rx ry => ?_
    have f : Fin X.w F0 H0 F H F2 H2 e2 σ P Q := ⟨ok2, xt, fin⟩
    cases dx <;> cases dy <;> first | exact h.elim | skip
    cases rx.int; cases ry.int
    exact ⟨_, _, rfl, rfl, h.1, f.val h.2 (.int _)⟩
theorem se_neg {x : Ex} (ha : PE X a (tB X.w G F0 H0 x)) : PE X (.UnaryOp .USub a pos) (tE X.w G F0 H0 (.neg x)) := by
  refine (pe_un un_neg ha).imp fun σ H Q ⟨F, env, P, ok, hw, fin⟩ => ⟨F, env, _, ok, hw, fun dx e1 h1 v F1 H1 xt1 rp1 ok1 => ?_⟩
  have f : Fin X.w F0 H0 F H F1 H1 e1 σ P Q := ⟨ok1, xt1, fin⟩
  cases dx <;> first | exact h1.elim | skip
  cases rp1.int
  exact ⟨_, rfl, f.val h1 (.int _)⟩
end
end Vi
set_option Elab.async false
set_option linter.all false
set_option maxRecDepth 100000
/-! ViD: dicts. -/
namespace Vi
open PySem PySem.Spec PyProof.Rows L2

section
variable {P : Program} {w : World} {F H H0 F0 : Hp} {h : Heap}
mutual
theorem Rep.nested (ok : HOk P w H h) (s : Same F H) : ∀ {d : D} {v : V} {u : Value} {n : NestedKey}, Rep w F v d → nk d = some n → RelV v u → NestedIs h n u
  | .non, _, u, n, .non, e, r => by simp only [nk, Option.some.injEq] at e; subst e; cases (show u = Value.none from r); exact .none
  | .bl b, _, u, n, .bl _, e, r => by simp only [nk, Option.some.injEq] at e; subst e; cases (show u = Value.bool b from r); exact .bool rfl
  | .int i, _, u, n, .int _, e, r => by simp only [nk, Option.some.injEq] at e; subst e; obtain ⟨t, rfl⟩ := r; exact .int _ _
  | .str x, _, u, n, .str _, e, r => by simp only [nk, Option.some.injEq] at e; subst e; obtain ⟨t, rfl⟩ := r; exact .text _ _
  | .ty _, _, _, _, .ty _, e, _ => by simp [nk] at e
  | .tup ds, _, u, n, .tup hp rs, e, r => by
    simp only [nk, Option.map_eq_some_iff] at e
    obtain ⟨ns, e1, rfl⟩ := e
    cases (show u = Value.ref _ from r)
    obtain ⟨_, its, rv, ob, e2, e3, cn, e4⟩ := ok _ _ (s _ _ hp)
    exact .tup e2 e3 e4 (by simpa using Reps.nested ok s rs e1 rv)
  | .lst _, _, _, _, .lst _ _, e, _ => by simp [nk] at e
  | .dct _ _, _, _, _, .dct _ _ _ _ _, e, _ => by simp [nk] at e
theorem Reps.nested (ok : HOk P w H h) (s : Same F H) : ∀ {ds : List D} {vs : List V} {us : List Value} {ns : List NestedKey}, Reps w F vs ds → nks ds = some ns → Vals vs us → NestedAll h ns us
  | [], _, _, _, .nil, e, r => by simp only [nks, Option.some.injEq] at e; subst e; cases r; exact .nil
  | d :: ds, _, _, _, .cons r t, e, q => by
    simp only [nks, Option.bind_eq_some_iff, Option.map_eq_some_iff] at e
    obtain ⟨k, e1, ks, e2, rfl⟩ := e
    cases q with
    | cons q1 q2 => exact .cons (Rep.nested ok s r e1 q1) (Reps.nested ok s t e2 q2)
end

/-! ### keys carried by value -/
structure ByV (P : Program) (w : World) (K : Type) [DecidableEq K] (knd : KeyKind P w K) (c : Nat) where
  dk : D → Option K
  emb : K → NestedKey
  inj : ∀ a b, emb a = emb b → a = b
  hash : ∀ k, knd.hash k = (emb k).hash w
  nke : ∀ d k, dk d = some k → nk d = some (emb k)
  has : ∀ d, kd d = c → ∃ k, dk d = some k
  fwd : ∀ F d k v u, dk d = some k → Rep w F v d → KRel v d u → knd.is k u = true
  fwd' : ∀ F d k v u, dk d = some k → Rep w F v d → RelV v u → knd.is k u = true
  back : ∀ d k u, dk d = some k → knd.is k u = true → ∃ y, (∀ F, Rep w F y d) ∧ KRel y d u
def byMix (P : Program) (w : World) : ByV P w Key (mixKind P w) 0 where
  dk := fun d => match d with | .int i => some (.inl i) | .str x => some (.inr x) | _ => none
  emb := fun k => match k with | .inl i => .num i | .inr x => .text x
  inj := fun a b e => by cases a <;> cases b <;> simp at e <;> simp [e]
  hash := fun k => by cases k <;> rfl
  nke := fun d k e => by cases d <;> simp at e <;> subst e <;> rfl
  has := fun d e => by cases d <;> simp [kd] at e <;> exact ⟨_, rfl⟩
  fwd := fun F d k v u e r q => by
    cases d <;> simp at e <;> subst e <;> cases r <;> (obtain ⟨t, rfl⟩ := q)
    · exact mixKind_int P w _ t
    · exact mixKind_str P w _ t
  fwd' := fun F d k v u e r q => by
    cases d <;> simp at e <;> subst e <;> cases r <;> (obtain ⟨t, rfl⟩ := q)
    · exact mixKind_int P w _ t
    · exact mixKind_str P w _ t
  back := fun d k u e h => by
    have h' : keyIs k u = true := h
    rcases keyIs_shape h' with ⟨i, t, rfl, rfl⟩ | ⟨x, t, rfl, rfl⟩
    · cases d <;> simp at e
      subst e
      exact ⟨_, fun F => .int _, ⟨t, rfl⟩⟩
    · cases d <;> simp at e
      subst e
      exact ⟨_, fun F => .str _, ⟨t, rfl⟩⟩
def byLeaf (P : Program) (w : World) : ByV P w Leaf (leafKind P w) 1 where
  dk := leafOf
  emb := Leaf.key
  inj := fun a b e => Leaf.key_inj e
  hash := fun k => rfl
  nke := fun d k e => by cases d <;> simp [leafOf] at e <;> subst e <;> rfl
  has := fun d e => by cases d <;> simp [kd] at e <;> exact ⟨_, rfl⟩
  fwd := fun F d k v u e r q => by unfold KRel at q; rw [e] at q; exact q
  fwd' := fun F d k v u e r q => by
    cases d with
    | non =>
      cases r; cases (show u = Value.none from q)
      have e' : some Leaf.none = some k := e
      cases e'; rfl
    | bl b =>
      cases r; cases (show u = Value.bool b from q)
      have e' : some (Leaf.num (if b = true then 1 else 0)) = some k := e
      cases e'
      show decide ((if b = true then (1 : Int) else 0) = (if b = true then 1 else 0)) = true
      exact decide_eq_true rfl
    | _ => cases e
  back := fun d k u e h => by
    cases d with
    | non => exact ⟨.non, fun F => .non, by unfold KRel; rw [e]; exact h⟩
    | bl b => exact ⟨.bl b, fun F => .bl b, by unfold KRel; rw [e]; exact h⟩
    | _ => cases e

section
variable {K : Type} [DecidableEq K] {knd : KeyKind P w K} {c : Nat}
/-- from entries to pairs -/
theorem ByV.pairs (B : ByV P w K knd c) : ∀ {es : List DictEntry} {yks yvs : List V} {ks : List D}, EntsAre w es yks yvs ks → (∀ a ∈ ks, kd a = c) → Reps w F yks ks →
    ∃ us : List (K × Value), Pairs knd es us ∧ (∀ e ∈ es, ∃ k, knd.is k e.key = true ∧ e.hash = knd.hash k) ∧ us.map (fun p => some p.1) = ks.map B.dk ∧ Vals yvs (us.map (·.2))
  | _, _, _, _, .nil, _, _ => ⟨[], .nil, fun e h => (by simp at h), rfl, .nil⟩
  | _, _, _, _, .cons (e := e) (k := k) r1 r2 r3 r4 t, hk, .cons q1 q2 => by
    obtain ⟨us, p1, p2, p3, p4⟩ := ByV.pairs B t (fun a ha => hk a (List.mem_cons_of_mem _ ha)) q2
    obtain ⟨kk, hkk⟩ := B.has k (hk k List.mem_cons_self)
    have his := B.fwd F k kk _ _ hkk q1 r1
    have hn := B.nke k kk hkk
    rw [r3] at hn
    cases Option.some.inj hn
    refine ⟨(kk, e.val) :: us, .cons his rfl p1, fun e' he' => ?_, by simp only [List.map_cons, p3, hkk], .cons r2 p4⟩
    rcases List.mem_cons.mp he' with rfl | he'
    · exact ⟨kk, his, by rw [r4, B.hash]⟩
    · exact p2 e' he'
/-- from pairs to entries -/
theorem ByV.ents (B : ByV P w K knd c) : ∀ {es : List DictEntry} {us : List (K × Value)} {ks : List D} {yvs : List V}, Pairs knd es us → (∀ e ∈ es, ∃ k, knd.is k e.key = true ∧ e.hash = knd.hash k) → us.map (fun p => some p.1) = ks.map B.dk → Vals yvs (us.map (·.2)) →
    ∃ yks, EntsAre w es yks yvs ks ∧ ∀ F, Reps w F yks ks
  | _, _, [], _, .nil, _, _, q => by cases q; exact ⟨[], .nil, fun F => .nil⟩
  | _, _, _ :: _, _, .nil, _, e, q => by simp at e
  | _, _, [], _, .cons _ _ _, _, e, _ => by simp at e
  | _, _, d :: ks, _, .cons (e := en) (kv := kv) h1 h2 t, hh, e, q => by
    simp only [List.map_cons, List.cons.injEq] at e
    obtain ⟨e1, e2⟩ := e
    cases q with
    | cons q1 q2 =>
      obtain ⟨yks, r, rr⟩ := ByV.ents B t (fun e he => hh e (List.mem_cons_of_mem _ he)) e2 q2
      obtain ⟨y, ry, rk⟩ := B.back d kv.1 en.key e1.symm h1
      obtain ⟨k', hk1, hk2⟩ := hh en List.mem_cons_self
      have ek := knd.inj _ _ _ hk1 h1
      subst ek
      exact ⟨y :: yks, .cons rk (by rw [h2]; exact q1) (B.nke d _ e1.symm) (by rw [hk2, B.hash]) r, fun F => .cons (ry F) (rr F)⟩
theorem ByV.nk_eq (B : ByV P w K knd c) {a k : D} {ka kk : K} (ha : B.dk a = some ka) (hk : B.dk k = some kk) : (Vi.nk a = Vi.nk k) ↔ ka = kk := by
  rw [B.nke a ka ha, B.nke k kk hk]
  exact ⟨fun e => B.inj _ _ (Option.some.inj e), fun e => by rw [e]⟩
/-- look-up -/
theorem ByV.look (B : ByV P w K knd c) {k : D} {kk : K} (hk : B.dk k = some kk) : ∀ {us : List (K × Value)} {ks vs : List D} {yvs : List V}, us.map (fun p => some p.1) = ks.map B.dk → Vals yvs (us.map (·.2)) → Reps w F yvs vs →
    (∀ v, dget ks vs k = some v → ∃ y u, valueAt us kk = some u ∧ RelV y u ∧ Rep w F y v) ∧ (dget ks vs k = none → valueAt us kk = none)
  | [], [], vs, _, _, q, r => by
    cases q; cases r
    exact ⟨fun v e => (by simp [dget] at e), fun _ => rfl⟩
  | [], _ :: _, _, _, e, _, _ => by simp at e
  | _ :: _, [], _, _, e, _, _ => by simp at e
  | p :: us, a :: ks, vs, _, e, .cons q1 q2, r => by
    simp only [List.map_cons, List.cons.injEq] at e
    obtain ⟨e1, e2⟩ := e
    cases r with
    | cons r1 r2 =>
      have ih := ByV.look B hk e2 q2 r2
      have hb := B.nk_eq e1.symm hk
      by_cases hc : p.1 = kk
      · have hn := hb.mpr hc
        refine ⟨fun v ev => ?_, fun ev => ?_⟩
        · simp only [dget, hn, if_true, Option.some.injEq] at ev
          subst ev
          exact ⟨_, p.2, by simp [valueAt, List.find?_cons, hc], q1, r1⟩
        · simp [dget, hn] at ev
      · have hn : ¬ Vi.nk a = Vi.nk k := fun z => hc (hb.mp z)
        have hv : valueAt (p :: us) kk = valueAt us kk := by simp [valueAt, List.find?_cons, hc]
        refine ⟨fun v ev => ?_, fun ev => ?_⟩
        · simp only [dget, if_neg hn] at ev
          rw [hv]; exact ih.1 v ev
        · simp only [dget, if_neg hn] at ev
          rw [hv]; exact ih.2 ev
end
end
/-! ### stores on the lists -/
theorem dputK_length (ks : List D) (k : D) : (dputK ks k).length ≤ ks.length + 1 := by
  unfold dputK; split
  · omega
  · simp
theorem dputV_none {α : Type} : ∀ {ks : List D} {vs : List α} {k : D} {v : α}, ks.length = vs.length → (∀ a ∈ ks, nk a ≠ nk k) → dputV ks vs k v = vs ++ [v]
  | [], [], _, _, _, _ => rfl
  | [], _ :: _, _, _, e, _ => by simp at e
  | _ :: _, [], _, _, e, _ => by simp at e
  | a :: ks, b :: vs, k, v, e, h => by
    rw [dputV, if_neg (h a List.mem_cons_self), dputV_none (by simpa using e) fun x hx => h x (List.mem_cons_of_mem _ hx)]
    rfl
theorem any_nk {ks : List D} {k : D} : ks.any (fun a => decide (nk a = nk k)) = true ↔ ∃ a ∈ ks, nk a = nk k := by
  simp
theorem dputV_reps {w : World} {F : Hp} {k : D} {y : V} {v : D} (r : Rep w F y v) : ∀ {ks : List D} {yvs : List V} {vs : List D}, Reps w F yvs vs → Reps w F (dputV ks yvs k y) (dputV ks vs k v)
  | [], _, _, _ => .cons r .nil
  | _ :: _, _, _, .nil => .cons r .nil
  | a :: ks, _, _, .cons q t => by
    unfold dputV
    split
    · exact .cons r t
    · exact .cons q (dputV_reps r t)

/-! ### a dict in the heap -/
theorem dictO_ok {P : Program} {w : World} {H : Hp} {h : Heap} {o : Obj} {p : Addr} (e : h.get? p = some o) : ObjOk P w H h p (dictO o p) := ⟨e, ⟨o, e⟩, fun _ _ q k => k o q⟩
section
variable {X : Cx} {pins : List (Addr × Obj)} {σ : L2.St} {F H : Hp} {s : Shared} {p : Addr} {o : Obj} {yks yvs : List V} {ks vs : List D} {A : Around} {E : Value → Shared → Prop}
theorem Inv.dictAt (I : L2.Inv X pins σ H s) (e : H p = some (dictO o p)) : s.heap.get? p = some o := (I.hok _ _ e).1
theorem nodup_map {α β : Type} {f : α → β} (hf : ∀ a b, f a = f b → a = b) : ∀ {l : List α}, l.Nodup → (l.map f).Nodup
  | [], _ => List.nodup_nil
  | x :: l, h => by
    rw [List.map_cons, List.nodup_cons]
    rw [List.nodup_cons] at h
    refine ⟨fun hm => h.1 ?_, nodup_map hf h.2⟩
    obtain ⟨y, hy, e⟩ := List.mem_map.mp hm
    rw [← hf _ _ e]; exact hy
theorem nodup_of_map {α β : Type} {f : α → β} : ∀ {l : List α}, (l.map f).Nodup → l.Nodup
  | [], _ => List.nodup_nil
  | x :: l, h => by
    rw [List.map_cons, List.nodup_cons] at h
    rw [List.nodup_cons]
    exact ⟨fun hm => h.1 (List.mem_map.mpr ⟨x, hm, rfl⟩), nodup_of_map h.2⟩
section
variable {K : Type} [DecidableEq K] {knd : KeyKind X.prog X.w K} {c : Nat}
theorem ByV.keys_nk {P : Program} {w : World} {knd : KeyKind P w K} (B : ByV P w K knd c) : ∀ {us : List (K × Value)} {ks : List D}, us.map (fun p => some p.1) = ks.map B.dk → ks.map Vi.nk = (us.map (·.1)).map fun k => some (B.emb k)
  | [], [], _ => rfl
  | [], _ :: _, e => by simp at e
  | _ :: _, [], e => by simp at e
  | p :: us, a :: ks, e => by
    simp only [List.map_cons, List.cons.injEq] at e
    rw [List.map_cons, List.map_cons, List.map_cons, B.nke a p.1 e.1.symm, ByV.keys_nk B e.2]
theorem ByV.at (B : ByV X.prog X.w K knd c) (I : L2.Inv X pins σ H s) (e : H p = some (dictO o p)) (r : Reps X.w F yks ks) (d : DictIs X.w o yks yvs ks) (hk : ∀ a ∈ ks, kd a = c) :
    ∃ us, s.heap.DictOf knd p us ∧ us.map (fun p => some p.1) = ks.map B.dk ∧ Vals yvs (us.map (·.2)) := by
  obtain ⟨es, ep, h1, h2⟩ := d.dat
  obtain ⟨us, p1, p2, p3, p4⟩ := B.pairs h2 hk r
  refine ⟨us, ⟨o, es, ep, Inv.dictAt I e, d.ex, h1, fun en hen => p2 en (Array.mem_toList_iff.mpr hen), p1, ?_⟩, p3, p4⟩
  have q := d.nd
  rw [B.keys_nk p3] at q
  exact nodup_of_map q
theorem ByV.new (B : ByV X.prog X.w K knd c) {h : Heap} {us : List (K × Value)} (dd : h.DictOf knd p us) (e : us.map (fun p => some p.1) = ks.map B.dk) (r : Vals yvs (us.map (·.2))) (hc : c < 3) (hk : ∀ a ∈ ks, kd a = c) (hkey : ∀ a ∈ ks, ∃ n, nk a = some n ∧ n.depth ≤ 8) (hz : ks.length ≤ sizeLine) :
    ∃ o yks, h.get? p = some o ∧ (∀ F, Reps X.w F yks ks) ∧ DictIs X.w o yks yvs ks := by
  obtain ⟨o, es, ep, h1, h2, h3, h4, h5, h6⟩ := dd
  obtain ⟨yks, t1, t2⟩ := B.ents h5 (fun en hen => h4 en (Array.mem_toList_iff.mp hen)) e r
  refine ⟨o, yks, h1, t2, h2, ⟨es, ep, h3, t1⟩, hz, ?_, ⟨c, hc, hk⟩, hkey⟩
  rw [B.keys_nk e]
  exact nodup_map (fun a b z => B.inj _ _ (Option.some.inj z)) h6
/-- the pairs behind a store -/
theorem ByV.store {P : Program} {w : World} {knd : KeyKind P w K} (B : ByV P w K knd c) {k : D} {kk : K} {y : V} {u : Value} (hk : B.dk k = some kk) (ry : RelV y u) : ∀ {us : List (K × Value)} {ks : List D} {yvs : List V},
    us.map (fun p => some p.1) = ks.map B.dk → Vals yvs (us.map (·.2)) → (us.map (·.1)).Nodup →
    (stored us kk u).map (fun p => some p.1) = (dputK ks k).map B.dk ∧ Vals (dputV ks yvs k y) ((stored us kk u).map (·.2)) := by
  have main : ∀ {us : List (K × Value)} {ks : List D} {yvs : List V}, us.map (fun p => some p.1) = ks.map B.dk → Vals yvs (us.map (·.2)) → (us.map (·.1)).Nodup →
      (us.any (fun kv => decide (kv.1 = kk)) = ks.any (fun a => decide (nk a = nk k))) ∧
      (us.any (fun kv => decide (kv.1 = kk)) = true → Vals (dputV ks yvs k y) ((us.map fun kv => if kv.1 = kk then (kv.1, u) else kv).map (·.2))) ∧
      (us.any (fun kv => decide (kv.1 = kk)) = false → dputV ks yvs k y = yvs ++ [y]) := by
    intro us
    induction us with
    | nil =>
      intro ks yvs e q _
      cases ks with
      | cons _ _ => simp at e
      | nil => cases q; exact ⟨rfl, fun h => (by simp at h), fun _ => rfl⟩
    | cons p us ih =>
      intro ks yvs e q nd
      cases ks with
      | nil => simp at e
      | cons a ks =>
        simp only [List.map_cons, List.cons.injEq] at e
        obtain ⟨e1, e2⟩ := e
        rw [List.map_cons, List.nodup_cons] at nd
        cases q with
        | cons q1 q2 =>
          rename_i yv yvs
          obtain ⟨i1, i2, i3⟩ := ih e2 q2 nd.2
          have hb := B.nk_eq e1.symm hk
          have hd : decide (p.1 = kk) = decide (nk a = nk k) := by
            by_cases z : p.1 = kk
            · rw [decide_eq_true z, decide_eq_true (hb.mpr z)]
            · rw [decide_eq_false z, decide_eq_false fun t => z (hb.mp t)]
          by_cases z : p.1 = kk
          · have zn := hb.mpr z
            refine ⟨by rw [List.any_cons, List.any_cons, hd, i1], fun _ => ?_, fun h => ?_⟩
            · have rest : (us.map fun kv => if kv.1 = kk then (kv.1, u) else kv) = us := by
                have h1 : ∀ kv ∈ us, (if kv.1 = kk then (kv.1, u) else kv) = kv := fun kv hm => by
                  rw [if_neg fun t => nd.1 (List.mem_map.mpr ⟨kv, hm, t.trans z.symm⟩)]
                rw [List.map_congr_left h1, List.map_id']
              rw [dputV, if_pos zn, List.map_cons, List.map_cons, if_pos z, rest]
              exact .cons ry q2
            · simp [z] at h
          · have zn : ¬ nk a = nk k := fun t => z (hb.mp t)
            refine ⟨by rw [List.any_cons, List.any_cons, hd, i1], fun h => ?_, fun h => ?_⟩
            · have h' : us.any (fun kv => decide (kv.1 = kk)) = true := by simpa [z] using h
              rw [dputV, if_neg zn, List.map_cons, List.map_cons, if_neg z]
              exact .cons q1 (i2 h')
            · have h' : us.any (fun kv => decide (kv.1 = kk)) = false := by simpa [z] using h
              rw [dputV, if_neg zn, i3 h']; rfl
  intro us ks yvs e q nd
  obtain ⟨m1, m2, m3⟩ := main e q nd
  unfold stored dputK
  rw [← m1]
  cases hc : us.any (fun kv => decide (kv.1 = kk)) with
  | true =>
    rw [if_pos rfl, if_pos rfl]
    refine ⟨?_, m2 hc⟩
    rw [← e, List.map_map]
    refine List.map_congr_left fun p _ => ?_
    show some (if p.1 = kk then (p.1, u) else p).1 = some p.1
    split <;> rfl
  | false =>
    rw [if_neg Bool.false_ne_true, if_neg Bool.false_ne_true, m3 hc]
    refine ⟨by rw [List.map_append, List.map_append, e, List.map_cons, List.map_cons, hk]; rfl, ?_⟩
    rw [List.map_append]
    exact q.append (.cons ry .nil)
end

/-! ### keys that are tuples -/
theorem tents {P : Program} {w : World} {F H : Hp} {h : Heap} (ok : HOk P w H h) (sF : Same F H) : ∀ {es : List DictEntry} {yks yvs : List V} {ks : List D}, EntsAre w es yks yvs ks → (∀ a ∈ ks, kd a = 2) → (∀ a ∈ ks, ∃ n, nk a = some n ∧ n.depth ≤ 8) → Reps w F yks ks →
    ∃ xs : List (NestedKey × Addr × Value), es = xs.map (entryOfKey (nestedKind P w)) ∧ yks = xs.map (fun x => .ref x.2.1) ∧ ks.map nk = xs.map (fun x => some x.1) ∧ Vals yvs (xs.map (·.2.2)) ∧ ∀ x ∈ xs, (nestedKind P w).is h x.1 x.2.1
  | _, _, _, _, .nil, _, _, _ => ⟨[], rfl, rfl, rfl, .nil, fun e h => (by simp at h)⟩
  | _, _, _, _, .cons (e := e) (k := d) (n := n) r1 r2 r3 r4 t, hk, hd, .cons q1 q2 => by
    obtain ⟨xs, e1, e2, e3, e4, e5⟩ := tents ok sF t (fun a ha => hk a (List.mem_cons_of_mem _ ha)) (fun a ha => hd a (List.mem_cons_of_mem _ ha)) q2
    have h2 := hk d List.mem_cons_self
    obtain ⟨n', hn', hdep⟩ := hd d List.mem_cons_self
    rw [r3] at hn'; cases hn'
    cases d with
    | tup ds =>
      cases q1 with
      | tup hp rs =>
        rename_i p xs'
        have r1' : RelV (.ref p) e.key := r1
        have ek : e.key = .ref p := r1'
        have ni := Rep.nested ok sF (.tup hp rs) r3 (show RelV (.ref p) (.ref p) from rfl)
        refine ⟨(n, p, e.val) :: xs, ?_, by rw [List.map_cons, ← e2], by rw [List.map_cons, List.map_cons, e3, r3], .cons r2 e4, fun x hx => ?_⟩
        · rw [List.map_cons, ← e1]
          obtain ⟨eh, ekk, ev⟩ := e
          cases ek
          have r4' : eh = n.hash w := r4
          subst r4'
          rfl
        · rcases List.mem_cons.mp hx with rfl | hx
          · exact ⟨ni, hdep⟩
          · exact e5 x hx
    | _ => simp [kd] at h2
theorem tback {P : Program} {w : World} : ∀ {xs : List (NestedKey × Addr × Value)} {ks : List D} {yvs : List V}, ks.map nk = xs.map (fun x => some x.1) → (∀ a ∈ ks, kd a = 2) → Vals yvs (xs.map (·.2.2)) →
    EntsAre w (xs.map (entryOfKey (nestedKind P w))) (xs.map (fun x => .ref x.2.1)) yvs ks
  | [], [], _, _, _, q => by cases q; exact .nil
  | [], _ :: _, _, e, _, _ => by simp at e
  | _ :: _, [], _, e, _, _ => by simp at e
  | x :: xs, a :: ks, _, e, hk, .cons q1 q2 => by
    simp only [List.map_cons, List.cons.injEq] at e
    have h2 := hk a List.mem_cons_self
    refine .cons ?_ q1 e.1 rfl (tback e.2 (fun b hb => hk b (List.mem_cons_of_mem _ hb)) q2)
    cases a with
    | tup ds => exact (rfl : Value.ref x.2.1 = Value.ref x.2.1)
    | _ => simp [kd] at h2
theorem tlook {w : World} {F : Hp} {k : D} {n : NestedKey} (hk : nk k = some n) : ∀ {xs : List (NestedKey × Addr × Value)} {ks vs : List D} {yvs : List V}, ks.map nk = xs.map (fun x => some x.1) → Vals yvs (xs.map (·.2.2)) → Reps w F yvs vs →
    (∀ v, dget ks vs k = some v → ∃ y a u, atKey xs n = some (a, u) ∧ RelV y u ∧ Rep w F y v) ∧ (dget ks vs k = none → atKey xs n = none)
  | [], [], vs, _, _, q, r => by
    cases q; cases r
    exact ⟨fun v e => (by simp [dget] at e), fun _ => rfl⟩
  | [], _ :: _, _, _, e, _, _ => by simp at e
  | _ :: _, [], _, _, e, _, _ => by simp at e
  | p :: xs, a :: ks, _, _, e, .cons q1 q2, r => by
    simp only [List.map_cons, List.cons.injEq] at e
    obtain ⟨e1, e2⟩ := e
    cases r with
    | cons r1 r2 =>
      have ih := tlook hk e2 q2 r2
      by_cases hc : p.1 = n
      · have hn : nk a = nk k := by rw [e1, hk, hc]
        refine ⟨fun v ev => ?_, fun ev => ?_⟩
        · simp only [dget, hn, if_true, Option.some.injEq] at ev
          subst ev
          exact ⟨_, p.2.1, p.2.2, by simp [atKey, List.find?_cons, hc], q1, r1⟩
        · simp [dget, hn] at ev
      · have hn : ¬ nk a = nk k := fun z => hc (by rw [e1, hk] at z; exact Option.some.inj z)
        have hv : atKey (p :: xs) n = atKey xs n := by simp [atKey, List.find?_cons, hc]
        refine ⟨fun v ev => ?_, fun ev => ?_⟩
        · simp only [dget, if_neg hn] at ev
          rw [hv]; exact ih.1 v ev
        · simp only [dget, if_neg hn] at ev
          rw [hv]; exact ih.2 ev
theorem tstore {k : D} {n : NestedKey} {b : Addr} {y : V} {u : Value} {w : World} {F : Hp} (hk : nk k = some n) (ry : RelV y u) (rk : Rep w F (.ref b) k) : ∀ {xs : List (NestedKey × Addr × Value)} {ks : List D} {yvs : List V},
    ks.map nk = xs.map (fun x => some x.1) → Vals yvs (xs.map (·.2.2)) → (xs.map (·.1)).Nodup → Reps w F (xs.map (fun x => .ref x.2.1)) ks →
    (dputK ks k).map nk = (storedH xs n b u).map (fun x => some x.1) ∧ Vals (dputV ks yvs k y) ((storedH xs n b u).map (·.2.2)) ∧ Reps w F ((storedH xs n b u).map (fun x => .ref x.2.1)) (dputK ks k) := by
  have main : ∀ {xs : List (NestedKey × Addr × Value)} {ks : List D} {yvs : List V}, ks.map nk = xs.map (fun x => some x.1) → Vals yvs (xs.map (·.2.2)) → (xs.map (·.1)).Nodup →
      ((atKey xs n).isSome = ks.any (fun a => decide (nk a = nk k))) ∧
      ((atKey xs n).isSome = true → Vals (dputV ks yvs k y) ((xs.map (putAt n u)).map (·.2.2))) ∧
      ((atKey xs n).isSome = false → dputV ks yvs k y = yvs ++ [y]) := by
    intro xs
    induction xs with
    | nil =>
      intro ks yvs e q _
      cases ks with
      | cons _ _ => simp at e
      | nil => cases q; exact ⟨rfl, fun h => (by simp [atKey] at h), fun _ => rfl⟩
    | cons p xs ih =>
      intro ks yvs e q nd
      cases ks with
      | nil => simp at e
      | cons a ks =>
        simp only [List.map_cons, List.cons.injEq] at e
        obtain ⟨e1, e2⟩ := e
        rw [List.map_cons, List.nodup_cons] at nd
        cases q with
        | cons q1 q2 =>
          rename_i yv yvs
          obtain ⟨i1, i2, i3⟩ := ih e2 q2 nd.2
          by_cases z : p.1 = n
          · have zn : nk a = nk k := by rw [e1, hk, z]
            have ha : atKey (p :: xs) n = some p.2 := by simp [atKey, List.find?_cons, z]
            refine ⟨by rw [ha]; simp [zn], fun _ => ?_, fun h => ?_⟩
            · have rest : xs.map (putAt n u) = xs := by
                have h1 : ∀ x ∈ xs, putAt n u x = x := fun x hm => by
                  unfold putAt
                  rw [if_neg fun t => nd.1 (List.mem_map.mpr ⟨x, hm, t.trans z.symm⟩)]
                rw [List.map_congr_left h1, List.map_id']
              rw [dputV, if_pos zn, List.map_cons, List.map_cons, rest]
              unfold putAt
              rw [if_pos z]
              exact .cons ry q2
            · rw [ha] at h; cases h
          · have zn : ¬ nk a = nk k := fun t => z (by rw [e1, hk] at t; exact Option.some.inj t)
            have ha : atKey (p :: xs) n = atKey xs n := by simp [atKey, List.find?_cons, z]
            refine ⟨by rw [ha, i1]; simp [zn], fun h => ?_, fun h => ?_⟩
            · rw [ha] at h
              rw [dputV, if_neg zn, List.map_cons, List.map_cons]
              unfold putAt
              rw [if_neg z]
              exact .cons q1 (i2 h)
            · rw [ha] at h
              rw [dputV, if_neg zn, i3 h]; rfl
  intro xs ks yvs e q nd rks
  obtain ⟨m1, m2, m3⟩ := main e q nd
  unfold storedH dputK
  rw [← m1]
  cases hc : (atKey xs n).isSome with
  | true =>
    rw [if_pos rfl, if_pos rfl]
    refine ⟨?_, m2 hc, ?_⟩
    · rw [e, List.map_map]
      refine List.map_congr_left fun p _ => ?_
      show some p.1 = some (putAt n u p).1
      unfold putAt; split <;> rfl
    · rw [List.map_map]
      have e2 : (xs.map ((fun x => V.ref x.2.1) ∘ putAt n u)) = xs.map (fun x => V.ref x.2.1) := List.map_congr_left fun p _ => by
        show V.ref (putAt n u p).2.1 = V.ref p.2.1
        unfold putAt; split <;> rfl
      rw [e2]; exact rks
  | false =>
    rw [if_neg Bool.false_ne_true, if_neg Bool.false_ne_true, m3 hc]
    refine ⟨by rw [List.map_append, List.map_append, e, List.map_cons, List.map_cons, hk]; rfl, ?_, ?_⟩
    · rw [List.map_append]; exact q.append (.cons ry .nil)
    · rw [List.map_append]; exact rks.append (.cons rk .nil)
theorem t_at (I : L2.Inv X pins σ H s) (sF : Same F H) (e : H p = some (dictO o p)) (r : Reps X.w F yks ks) (d : DictIs X.w o yks yvs ks) (hk : ∀ a ∈ ks, kd a = 2) :
    ∃ xs, s.heap.DictOfH (nestedKind X.prog X.w) p xs ∧ yks = xs.map (fun x => .ref x.2.1) ∧ ks.map nk = xs.map (fun x => some x.1) ∧ Vals yvs (xs.map (·.2.2)) := by
  obtain ⟨es, ep, h1, h2⟩ := d.dat
  obtain ⟨xs, e1, e2, e3, e4, e5⟩ := tents I.hok sF h2 hk d.keys r
  refine ⟨xs, ⟨o, es, ep, Inv.dictAt I e, d.ex, h1, e1, e5, ?_⟩, e2, e3, e4⟩
  have q := d.nd
  rw [e3] at q
  have e6 : xs.map (fun x => some x.1) = (xs.map (·.1)).map some := by rw [List.map_map]; rfl
  rw [e6] at q
  exact nodup_of_map q

theorem map_some (xs : List (NestedKey × Addr × Value)) : xs.map (fun x => some x.1) = (xs.map (·.1)).map some := by rw [List.map_map]; rfl

/-! ### the operations -/
theorem kd3 {d : D} (h : kd d < 3) : kd d = 0 ∨ kd d = 1 ∨ kd d = 2 := by omega
/-- d[k], there -/
theorem dd_get {v : D} {k : D} {y : V} {u : Value} {Q : Value → Shared → Prop} (hu : A.units + 16 < cLine) (I : L2.Inv X pins σ H s) (sF : Same F H) (t : RepTop X.w F H p (.dct ks vs)) (ko : KeyOk ks k) (rk : Rep X.w F y k) (ru : RelV y u) (hv : dget ks vs k = some v)
    (h : ∀ yv w' s', L2.Inv X pins σ H s' → RelV yv w' → Rep X.w F yv v → Q w' s') : wpAny (model X.prog X.w) A (getItem (.ref p) u) Q E s := by
  obtain ⟨o, yks, yvs, e, hs, r1, r2, di⟩ := t
  obtain ⟨k1, k2, n, k3, k4⟩ := ko
  rcases kd3 k2 with c | c | c
  · obtain ⟨us, dd, e1, e2⟩ := (byMix X.prog X.w).at I e r1 di (fun a ha => (k1 a ha).trans c)
    obtain ⟨kk, hkk⟩ := (byMix X.prog X.w).has k c
    obtain ⟨yv, w', h1, h2, h3⟩ := ((byMix X.prog X.w).look (F := F) hkk e1 e2 r2).1 v hv
    exact wpAny_getItem_of ((byMix X.prog X.w).fwd' F k kk y u hkk rk ru) dd.mapOf h1 (h yv w' _ (I.tok _) h2 h3)
  · obtain ⟨us, dd, e1, e2⟩ := (byLeaf X.prog X.w).at I e r1 di (fun a ha => (k1 a ha).trans c)
    obtain ⟨kk, hkk⟩ := (byLeaf X.prog X.w).has k c
    obtain ⟨yv, w', h1, h2, h3⟩ := ((byLeaf X.prog X.w).look (F := F) hkk e1 e2 r2).1 v hv
    exact wpAny_getItem_of ((byLeaf X.prog X.w).fwd' F k kk y u hkk rk ru) dd.mapOf h1 (h yv w' _ (I.tok _) h2 h3)
  · obtain ⟨xs, dd, e1, e2, e3⟩ := t_at I sF e r1 di (fun a ha => (k1 a ha).trans c)
    obtain ⟨yv, a, w', h1, h2, h3⟩ := (tlook (F := F) k3 e2 e3 r2).1 v hv
    have ni := Rep.nested I.hok sF rk k3 ru
    cases k with
    | tup ds =>
      cases rk with
      | tup hp rs =>
        cases (show u = Value.ref _ from ru)
        exact wpAny_getItem_heap (knd := nestedKind X.prog X.w) (show A.in1.units + 8 < cLine from by show A.units + 1 + 8 < cLine; omega) ⟨ni, k4⟩ dd h1 (h yv w' _ (I.tok _) h2 h3)
    | _ => simp [kd] at c
/-- k in d -/
theorem dd_in {neg : Bool} {k : D} {y : V} {u : Value} {Q : Value → Shared → Prop} (hu : A.units + 16 < cLine) (I : L2.Inv X pins σ H s) (sF : Same F H) (t : RepTop X.w F H p (.dct ks vs)) (ko : KeyOk ks k) (rk : Rep X.w F y k) (ru : RelV y u)
    (h : ∀ s', L2.Inv X pins σ H s' → Q (.bool (if neg = true then !(dget ks vs k).isSome else (dget ks vs k).isSome)) s') : wpAny (model X.prog X.w) A (compareOp (if neg = true then .NotIn else .In) u (.ref p)) Q E s := by
  obtain ⟨o, yks, yvs, e, hs, r1, r2, di⟩ := t
  obtain ⟨k1, k2, n, k3, k4⟩ := ko
  rcases kd3 k2 with c | c | c
  · obtain ⟨us, dd, e1, e2⟩ := (byMix X.prog X.w).at I e r1 di (fun a ha => (k1 a ha).trans c)
    obtain ⟨kk, hkk⟩ := (byMix X.prog X.w).has k c
    have lk := (byMix X.prog X.w).look (F := F) hkk e1 e2 r2
    have is := (byMix X.prog X.w).fwd' F k kk y u hkk rk ru
    have ev : (valueAt us kk).isSome = (dget ks vs k).isSome := by
      cases q : dget ks vs k with
      | none => rw [lk.2 q]; rfl
      | some v => obtain ⟨_, _, h1, _⟩ := lk.1 v q; rw [h1]; rfl
    cases neg with
    | true => exact wpAny_notIn_of is hs dd.mapOf (by rw [ev]; exact h _ (I.tok _))
    | false => exact wpAny_in_of is hs dd.mapOf (by rw [ev]; exact h _ (I.tok _))
  · obtain ⟨us, dd, e1, e2⟩ := (byLeaf X.prog X.w).at I e r1 di (fun a ha => (k1 a ha).trans c)
    obtain ⟨kk, hkk⟩ := (byLeaf X.prog X.w).has k c
    have lk := (byLeaf X.prog X.w).look (F := F) hkk e1 e2 r2
    have is := (byLeaf X.prog X.w).fwd' F k kk y u hkk rk ru
    have ev : (valueAt us kk).isSome = (dget ks vs k).isSome := by
      cases q : dget ks vs k with
      | none => rw [lk.2 q]; rfl
      | some v => obtain ⟨_, _, h1, _⟩ := lk.1 v q; rw [h1]; rfl
    cases neg with
    | true => exact wpAny_notIn_of is hs dd.mapOf (by rw [ev]; exact h _ (I.tok _))
    | false => exact wpAny_in_of is hs dd.mapOf (by rw [ev]; exact h _ (I.tok _))
  · obtain ⟨xs, dd, e1, e2, e3⟩ := t_at I sF e r1 di (fun a ha => (k1 a ha).trans c)
    have lk := tlook (F := F) k3 e2 e3 r2
    have ev : (atKey xs n).isSome = (dget ks vs k).isSome := by
      cases q : dget ks vs k with
      | none => rw [lk.2 q]; rfl
      | some v => obtain ⟨_, _, _, h1, _⟩ := lk.1 v q; rw [h1]; rfl
    have ni := Rep.nested I.hok sF rk k3 ru
    cases k with
    | tup ds =>
      cases rk with
      | tup hp rs =>
        cases (show u = Value.ref _ from ru)
        have hr : (nestedKind X.prog X.w).room A.in1 := show A.units + 1 + 8 < cLine by omega
        cases neg with
        | true => exact wpAny_notIn_heap hr ⟨ni, k4⟩ hs dd (by rw [ev]; exact h _ (I.tok _))
        | false => exact wpAny_in_heap hr ⟨ni, k4⟩ hs dd (by rw [ev]; exact h _ (I.tok _))
    | _ => simp [kd] at c
theorem dputK_mem {k a : D} (h : a ∈ dputK ks k) : a ∈ ks ∨ a = k := by
  unfold dputK at h
  split at h
  · exact .inl h
  · rcases List.mem_append.mp h with h | h
    · exact .inl h
    · exact .inr (by simpa using h)
/-- d[k] = v -/
theorem dd_set {v : D} {k : D} {y yv : V} {u r : Value} {Q : Unit → Shared → Prop} (hu : A.units + 16 < cLine) (I : L2.Inv X pins σ H s) (sF : Same F H) (t : RepTop X.w F H p (.dct ks vs)) (ko : KeyOk ks k) (hz : ks.length < sizeLine) (rk : Rep X.w F y k) (ru : RelV y u) (rv : Rep X.w F yv v) (rr : RelV yv r)
    (hp : F p = none) (h : ∀ o' s', L2.Inv X pins σ (upd H p (dictO o' p)) s' → RepTop X.w F (upd H p (dictO o' p)) p (.dct (dputK ks k) (dputV ks vs k v)) → Q () s') : wpAny (model X.prog X.w) A (setItem (.ref p) u r) Q E s := by
  obtain ⟨o, yks, yvs, e, hs, r1, r2, di⟩ := t
  obtain ⟨k1, k2, n, k3, k4⟩ := ko
  have hm : Mut (H p) := by rw [e]; exact True.intro
  have hlen : (dputK ks k).length ≤ sizeLine := by have := dputK_length ks k; omega
  have hkey : ∀ a ∈ dputK ks k, ∃ n, nk a = some n ∧ n.depth ≤ 8 := fun a ha => by
    rcases dputK_mem ha with q | q
    · exact di.keys a q
    · subst q; exact ⟨n, k3, k4⟩
  have hkd : ∀ a ∈ dputK ks k, kd a = kd k := fun a ha => by
    rcases dputK_mem ha with q | q
    · exact k1 a q
    · rw [q]
  have wr : ∀ {h' : Heap} {o' : Obj} {yks' : List V}, Heap.SameBut p s.heap h' → h'.get? p = some o' → Reps X.w F yks' (dputK ks k) → DictIs X.w o' yks' (dputV ks yvs k yv) (dputK ks k) → ∀ {t' : Nat}, Q () { s with heap := h', toks := t' } := fun {h' o' yks'} hs' ho' rk' di' {t'} => by
    refine h o' _ (d_write I hm hs' ⟨o', ho'⟩ (dictO_ok ho')) ⟨o', yks', _, upd_same, hs, rk', dputV_reps rv r2, di'⟩
  rcases kd3 k2 with c | c | c
  · obtain ⟨us, dd, e1, e2⟩ := (byMix X.prog X.w).at I e r1 di (fun a ha => (k1 a ha).trans c)
    obtain ⟨kk, hkk⟩ := (byMix X.prog X.w).has k c
    have hz' : us.length ≤ sizeLine := by
      have := congrArg List.length e1; simp only [List.length_map] at this; omega
    have nd : (us.map (·.1)).Nodup := let ⟨_, _, _, _, _, _, _, _, q⟩ := dd; q
    obtain ⟨s1, s2⟩ := (byMix X.prog X.w).store hkk rr e1 e2 nd
    refine wpAny_setItem_pairs (hsz := hz') ((byMix X.prog X.w).fwd' F k kk y u hkk rk ru) dd fun h' dd' hs' => ?_
    obtain ⟨o', yks', g1, g2, g3⟩ := (byMix X.prog X.w).new dd' s1 s2 (by decide) (fun a ha => (hkd a ha).trans c) hkey hlen
    exact wr hs' g1 (g2 F) g3
  · obtain ⟨us, dd, e1, e2⟩ := (byLeaf X.prog X.w).at I e r1 di (fun a ha => (k1 a ha).trans c)
    obtain ⟨kk, hkk⟩ := (byLeaf X.prog X.w).has k c
    have hz' : us.length ≤ sizeLine := by
      have := congrArg List.length e1; simp only [List.length_map] at this; omega
    have nd : (us.map (·.1)).Nodup := let ⟨_, _, _, _, _, _, _, _, q⟩ := dd; q
    obtain ⟨s1, s2⟩ := (byLeaf X.prog X.w).store hkk rr e1 e2 nd
    refine wpAny_setItem_pairs (hsz := hz') ((byLeaf X.prog X.w).fwd' F k kk y u hkk rk ru) dd fun h' dd' hs' => ?_
    obtain ⟨o', yks', g1, g2, g3⟩ := (byLeaf X.prog X.w).new dd' s1 s2 (by decide) (fun a ha => (hkd a ha).trans c) hkey hlen
    exact wr hs' g1 (g2 F) g3
  · obtain ⟨xs, dd, e1, e2, e3⟩ := t_at I sF e r1 di (fun a ha => (k1 a ha).trans c)
    have ni := Rep.nested I.hok sF rk k3 ru
    have hz' : xs.length ≤ sizeLine := by
      have := congrArg List.length e2; simp only [List.length_map] at this; omega
    have nd : (xs.map (·.1)).Nodup := let ⟨_, _, _, _, _, _, _, _, q⟩ := dd; q
    cases k with
    | tup ds =>
      cases id rk with
      | tup hp' rs =>
        cases (show u = Value.ref _ from ru)
        have hr : (nestedKind X.prog X.w).room A.in1 := show A.units + 1 + 8 < cLine by omega
        subst e1
        obtain ⟨s1, s2, s3⟩ := tstore k3 rr rk e2 e3 nd r1
        refine wpAny_setItem_heap (hsz := hz') hr ⟨ni, k4⟩ dd fun h' dd' hs' => ?_
        obtain ⟨o', es, ep, g1, g2, g3, g4, g5, g6⟩ := dd'
        refine wr hs' g1 s3 ⟨g2, ⟨es, ep, g3, by rw [g4]; exact tback s1 (fun a ha => (hkd a ha).trans c) s2⟩, hlen, ?_, ⟨2, by decide, fun a ha => (hkd a ha).trans c⟩, hkey⟩
        rw [s1]
        rw [map_some]
        exact nodup_map (fun a b z => Option.some.inj z) g6
    | _ => simp [kd] at c
end
end Vi
set_option Elab.async false
set_option linter.all false
set_option maxRecDepth 100000
/-! ViE: comparisons, tests, calls. -/
namespace Vi
open PySem PySem.Spec PyProof.Rows L2
section
variable {X : Cx} {N : List Str} {G : Str → Option (Nat × Ctr)} {k : Nat} {sc : Scope} {F0 H0 : Hp} {e a b c : Expr} {pos : Pos}

/-! ### comparisons by values -/
/-- a comparison's rule by deep values, and what it is worth -/
def CoR (X : Cx) (F0 H0 : Hp) (op : CmpOp) (o : Co) : Prop := ∃ r : R2, OpR X (compareOp op) r ∧
  ∀ (F H : Hp) (v u : V) (x y : D) (S : Bool → Prop) (Q : VK), Same F H → RepW X.w F H v x → RepW X.w F H u y → wCmp o x y S → (∀ b, S b → Q (.bl b) H) → r v u H Q
theorem co_lt : CoR X F0 H0 .Lt .lt := ⟨_, op_lt, fun F H v u x y S Q s rx ry h f => by
  cases x <;> cases y <;> first | exact h.elim | skip
  cases rx.int; cases ry.int; exact ⟨_, _, rfl, rfl, f _ h⟩⟩
theorem co_le : CoR X F0 H0 .LtE .le := ⟨_, op_le, fun F H v u x y S Q s rx ry h f => by
  cases x <;> cases y <;> first | exact h.elim | skip
  cases rx.int; cases ry.int; exact ⟨_, _, rfl, rfl, f _ h⟩⟩
theorem co_gt : CoR X F0 H0 .Gt .gt := ⟨_, op_gt, fun F H v u x y S Q s rx ry h f => by
  cases x <;> cases y <;> first | exact h.elim | skip
  cases rx.int; cases ry.int; exact ⟨_, _, rfl, rfl, f _ h⟩⟩
theorem co_ge : CoR X F0 H0 .GtE .ge := ⟨_, op_ge, fun F H v u x y S Q s rx ry h f => by
  cases x <;> cases y <;> first | exact h.elim | skip
  cases rx.int; cases ry.int; exact ⟨_, _, rfl, rfl, f _ h⟩⟩
theorem deq_some {x y : D} {b : Bool} (h : deq x y = some b) : ∃ d e, py x = some d ∧ py y = some e ∧ SeqAt.shaped d = true ∧ SeqAt.shaped e = true ∧ PyData.eqv d e = b := by
  unfold deq at h
  simp only [Option.bind_eq_some_iff] at h
  obtain ⟨d, e1, e, e2, h⟩ := h
  split at h
  · rename_i q; exact ⟨d, e, e1, e2, q.1, q.2, Option.some.inj h⟩
  · cases h
theorem co_eq (hr : Room k X.A) : CoR X F0 H0 .Eq .eq := ⟨_, op_eqD hr.units, fun F H v u x y S Q s rx ry h f => by
  obtain ⟨b, h1, h2⟩ := h
  obtain ⟨d, e, e1, e2, s1, s2, rfl⟩ := deq_some h1
  exact ⟨d, e, rx.dp s e1, ry.dp s e2, s1, s2, f _ h2⟩⟩
theorem co_ne (hr : Room k X.A) : CoR X F0 H0 .NotEq .ne := ⟨_, op_neD hr.units, fun F H v u x y S Q s rx ry h f => by
  obtain ⟨b, h1, h2⟩ := h
  obtain ⟨d, e, e1, e2, s1, s2, rfl⟩ := deq_some h1
  exact ⟨d, e, rx.dp s e1, ry.dp s e2, s1, s2, f _ h2⟩⟩
theorem is_bool_gen {M : Model} {A : Around} {E : Value → Shared → Prop} {s : Shared} {Q : Value → Shared → Prop} {v : Value} {b : Bool} (hv : ∀ id, v ≠ .builtin id) (h : Q (.bool (v == .bool b)) s) : wpAny M A (compareOp .Is v (.bool b)) Q E s := by
  cases v <;> first | exact wpAny_pure h | exact absurd rfl (hv _)
theorem isnot_bool_gen {M : Model} {A : Around} {E : Value → Shared → Prop} {s : Shared} {Q : Value → Shared → Prop} {v : Value} {b : Bool} (hv : ∀ id, v ≠ .builtin id) (h : Q (.bool (!(v == .bool b))) s) : wpAny M A (compareOp .IsNot v (.bool b)) Q E s := by
  cases v <;> first | exact wpAny_pure h | exact absurd rfl (hv _)
theorem noBlt {x : V} {v : Value} (r : RelV x v) : ∀ id, v ≠ .builtin id := fun id e => by
  subst e
  cases x with
  | non => cases (show Value.builtin id = Value.none from r)
  | bl c => cases (show Value.builtin id = Value.bool c from r)
  | int i => obtain ⟨t, e⟩ := r; cases e
  | str i => obtain ⟨t, e⟩ := r; cases e
  | byt i => obtain ⟨t, e⟩ := r; cases e
  | flt i => obtain ⟨t, e⟩ := r; cases e
  | ref a => cases (show Value.builtin id = Value.ref a from r)
  | ty n => cases (show Value.builtin id = Value.type n from r)
/-- is by values, of None and of bools -/
def vIs : V → V → Bool
  | .non, .non => true
  | .bl a, .bl b => a == b
  | _, _ => false
def vC : V → Bool
  | .non => true
  | .bl _ => true
  | _ => false
theorem is_rel {x y : V} {v u : Value} (hy : vC y = true) (rx : RelV x v) (ry : RelV y u) : (v == u) = vIs x y := by
  cases y with
  | non =>
    cases (show u = Value.none from ry)
    rw [rx.none_iff]
    cases x <;> rfl
  | bl b =>
    cases (show u = Value.bool b from ry)
    cases x with
    | bl c =>
      cases (show v = Value.bool c from rx)
      cases b <;> cases c <;> rfl
    | non => cases (show v = Value.none from rx); rfl
    | int i => obtain ⟨t, rfl⟩ := rx; rfl
    | str i => obtain ⟨t, rfl⟩ := rx; rfl
    | byt i => obtain ⟨t, rfl⟩ := rx; rfl
    | flt i => obtain ⟨t, rfl⟩ := rx; rfl
    | ref a => cases (show v = Value.ref a from rx); rfl
    | ty n => cases (show v = Value.type n from rx); rfl
  | _ => cases hy
theorem op_isC : OpR X (compareOp .Is) (fun x y H Q => vC y = true ∧ Q (.bl (vIs x y)) H) := by
  intro pins s σ H x y v u Q I rx ry h
  have e := is_rel h.1 rx ry
  cases y with
  | non =>
    cases (show u = Value.none from ry)
    exact is_none_gen (by rw [e]; exact ⟨.bl _, H, I, rfl, h.2⟩)
  | bl b =>
    cases (show u = Value.bool b from ry)
    exact is_bool_gen (noBlt rx) (by rw [e]; exact ⟨.bl _, H, I, rfl, h.2⟩)
  | _ => cases h.1
theorem op_isnC : OpR X (compareOp .IsNot) (fun x y H Q => vC y = true ∧ Q (.bl (!vIs x y)) H) := by
  intro pins s σ H x y v u Q I rx ry h
  have e := is_rel h.1 rx ry
  cases y with
  | non =>
    cases (show u = Value.none from ry)
    exact isnot_none_gen (by rw [e]; exact ⟨.bl _, H, I, rfl, h.2⟩)
  | bl b =>
    cases (show u = Value.bool b from ry)
    exact isnot_bool_gen (noBlt rx) (by rw [e]; exact ⟨.bl _, H, I, rfl, h.2⟩)
  | _ => cases h.1
theorem RepW.is {w : World} {F H : Hp} {v u : V} {x y : D} (rx : RepW w F H v x) (ry : RepW w F H u y) (hy : isC y = true) : vC u = true ∧ vIs v u = isD x y := by
  cases y with
  | non =>
    cases ry.non
    refine ⟨rfl, ?_⟩
    rcases rx with h | ⟨p, rfl, h⟩
    · cases h <;> rfl
    · cases x <;> first | rfl | exact h.elim
  | bl b =>
    cases ry.bl
    refine ⟨rfl, ?_⟩
    rcases rx with h | ⟨p, rfl, h⟩
    · cases h <;> rfl
    · cases x <;> first | rfl | exact h.elim
  | _ => cases hy
theorem co_is : CoR X F0 H0 .Is .is_ := ⟨_, op_isC, fun F H v u x y S Q s rx ry h f => by
  obtain ⟨h1, h2⟩ := rx.is ry h.1
  exact ⟨h1, by rw [h2]; exact f _ h.2⟩⟩
theorem co_isn : CoR X F0 H0 .IsNot .isn := ⟨_, op_isnC, fun F H v u x y S Q s rx ry h f => by
  obtain ⟨h1, h2⟩ := rx.is ry h.1
  exact ⟨h1, by rw [h2]; exact f _ h.2⟩⟩

theorem RepW.dct {w : World} {F H : Hp} {v : V} {ks vs : List D} (h : RepW w F H v (.dct ks vs)) (s : Same F H) : ∃ p, v = .ref p ∧ RepTop w F H p (.dct ks vs) := by
  rcases h with h | ⟨p, e, h⟩
  · cases h with | dct e g r q i => exact ⟨_, rfl, _, _, _, s _ _ e, g, r, q, i⟩
  · exact ⟨p, e, h⟩
theorem RepW.key {w : World} {F H : Hp} {v : V} {k : D} (h : RepW w F H v k) (hk : kd k < 3) : Rep w F v k := by
  rcases h with h | ⟨p, e, h⟩
  · exact h
  · cases k <;> first | exact h.elim | (simp [kd] at hk)
theorem units16 {k : Nat} {A : Around} (r : Room k A) : A.units + 16 < cLine := by have := r.un; omega
theorem op_inX (neg : Bool) (hr : Room k X.A) : OpR X (compareOp (if neg = true then .NotIn else .In)) (fun x y H Q => ∃ F ks vs d p, Same F H ∧ y = .ref p ∧ RepTop X.w F H p (.dct ks vs) ∧ KeyOk ks d ∧ Rep X.w F x d ∧ Q (.bl (if neg = true then !(dget ks vs d).isSome else (dget ks vs d).isSome)) H) := by
  intro pins s σ H x y v u Q I rx ry h
  obtain ⟨F, ks, vs, d, p, sF, rfl, t, ko, rk, q⟩ := h
  cases (show u = Value.ref p from ry)
  exact dd_in (units16 hr) I sF t ko rk rx fun s' I' => ⟨.bl _, H, I', rfl, q⟩
theorem co_mem (hr : Room k X.A) : CoR X F0 H0 .In .mem := ⟨_, op_inX false hr, fun F H v u x y S Q s rx ry h f => by
  cases y <;> first | exact h.elim | skip
  obtain ⟨p, rfl, t⟩ := ry.dct s
  exact ⟨F, _, _, x, p, s, rfl, t, h.1, rx.key h.1.2.1, f _ h.2⟩⟩
theorem co_nmem (hr : Room k X.A) : CoR X F0 H0 .NotIn .nmem := ⟨_, op_inX true hr, fun F H v u x y S Q s rx ry h f => by
  cases y <;> first | exact h.elim | skip
  obtain ⟨p, rfl, t⟩ := ry.dct s
  exact ⟨F, _, _, x, p, s, rfl, t, h.1, rx.key h.1.2.1, f _ h.2⟩⟩
def coOf : Co → CmpOp
  | .lt => .Lt
  | .le => .LtE
  | .gt => .Gt
  | .ge => .GtE
  | .eq => .Eq
  | .ne => .NotEq
  | .is_ => .Is
  | .isn => .IsNot
  | .mem => .In
  | .nmem => .NotIn
theorem co_all (hr : Room k X.A) (o : Co) : CoR X F0 H0 (coOf o) o := by
  cases o
  · exact co_lt
  · exact co_le
  · exact co_gt
  · exact co_ge
  · exact co_eq hr
  · exact co_ne hr
  · exact co_is
  · exact co_isn
  · exact co_mem hr
  · exact co_nmem hr
theorem se_cmp {x y : Ex} (o : Co) (hr : Room k X.A) (ha : PE X a (tB X.w G F0 H0 x)) (hb : PE X b (tB X.w G F0 H0 y)) (hm : behindInMarks (coOf o) b = false) : PE X (.Compare a [coOf o] [b] pos) (tE X.w G F0 H0 (.cmp o x y)) := by
  obtain ⟨r, h1, h2⟩ := co_all (F0 := F0) (H0 := H0) hr o
  refine (pe_cmpR h1 ha hb hm).imp fun σ H Q ⟨F, env, P, ok, hw, fin⟩ => two ok hw fun dx dy e2 v u F2 H2 h xt ok2 rx ry => ?_
  exact h2 F2 H2 v u dx dy _ Q ok2.sub rx ry h fun b hb => fin _ _ hb (.bl b) F2 H2 xt (.fro (.bl b)) ok2
/-- a comparison as a test -/
theorem st_cmp {x y : Ex} (o : Co) (hr : Room k X.A) (ha : PE X a (tB X.w G F0 H0 x)) (hb : PE X b (tB X.w G F0 H0 y)) (hm : behindInMarks (coOf o) b = false) : PT X (.Compare a [coOf o] [b] pos) (tTx X.w G F0 H0 (.val (.cmp o x y))) := by
  obtain ⟨r, h1, h2⟩ := co_all (F0 := F0) (H0 := H0) hr o
  refine (pt_cmpR h1 ha hb hm).imp fun σ H Q ⟨F, env, P, ok, hw, fin⟩ => ?_
  have hw : bor x (wE G EF x) env fun dx e1 => bor y (wE G EF y) e1 fun dy e2 => wCmp o dx dy fun r => P r e2 := hw
  exact two ok hw fun dx dy e2 v u F2 H2 h xt ok2 rx ry => h2 F2 H2 v u dx dy _ _ ok2.sub rx ry h fun b hb => ⟨b, rfl, fin _ _ hb F2 H2 xt ok2⟩
theorem three {w : World} {x y z : Ex} {o o' : Co} {r r' : R2} (h1 : ∀ (F H : Hp) (v u : V) (x y : D) (S : Bool → Prop) (Q : VK), Same F H → RepW w F H v x → RepW w F H u y → wCmp o x y S → (∀ b, S b → Q (.bl b) H) → r v u H Q)
    (h2 : ∀ (F H : Hp) (v u : V) (x y : D) (S : Bool → Prop) (Q : VK), Same F H → RepW w F H v x → RepW w F H u y → wCmp o' x y S → (∀ b, S b → Q (.bl b) H) → r' v u H Q)
    {σ : L2.St} {H Fi : Hp} {env : VE} {S : Bool → VE → Prop} {Q : VK} (ok : EnvOk w F0 H0 Fi H env σ)
    (hw : bor x (wE G EF x) env fun dx e1 => bor y (wE G EF y) e1 fun dy e2 => wCmp o dx dy fun b => if b = true then bor z (wE G EF z) e2 fun dz e3 => wCmp o' dy dz fun b => S b e3 else S false e2)
    (fin : ∀ b e2 F2 H2, S b e2 → Xt Fi H F2 H2 σ → EnvOk w F0 H0 F2 H2 e2 σ → Q (.bl b) H2) : tChain r r' (tB w G F0 H0 x) (tB w G F0 H0 y) (tB w G F0 H0 z) σ H Q := by
  refine two ok hw fun dx dy e2 v u F2 H2 h xt ok2 rx ry => ?_
  refine h1 F2 H2 v u dx dy _ _ ok2.sub rx ry h fun b hb => ⟨b, rfl, ?_⟩
  cases b with
  | true =>
    simp only [if_true] at hb ⊢
    refine ⟨F2, e2, _, ok2, hb, fun dz e3 hz t F3 H3 xt3 rz ok3 => ?_⟩
    exact h2 F3 H3 u t dy dz _ _ ok3.sub (ry.mono xt3.sub xt3.same) rz hz fun b hb => fin b e3 F3 H3 hb (xt.trans xt3) ok3
  | false =>
    simp only [Bool.false_eq_true, if_false] at hb ⊢
    exact fin false e2 F2 H2 hb xt ok2
theorem se_chain {x y z : Ex} (o o' : Co) (hr : Room k X.A) (ha : PE X a (tB X.w G F0 H0 x)) (hb : PE X b (tB X.w G F0 H0 y)) (hc : PE X c (tB X.w G F0 H0 z)) (hm : lastMarks [coOf o, coOf o'] [b, c] = false) :
    PE X (.Compare a [coOf o, coOf o'] [b, c] pos) (tE X.w G F0 H0 (.chain o o' x y z)) := by
  obtain ⟨r, h1, h2⟩ := co_all (F0 := F0) (H0 := H0) hr o
  obtain ⟨r', h1', h2'⟩ := co_all (F0 := F0) (H0 := H0) hr o'
  refine (pe_chain h1 h1' ha hb hc hm).imp fun σ H Q ⟨F, env, P, ok, hw, fin⟩ => ?_
  simp only [wE] at hw
  exact three h2 h2' (S := fun b e => P (false, .bl b) e) ok hw fun b e2 F2 H2 h xt ok2 => fin _ _ h (.bl b) F2 H2 xt (.fro (.bl b)) ok2
theorem st_chain {x y z : Ex} (o o' : Co) (hr : Room k X.A) (ha : PE X a (tB X.w G F0 H0 x)) (hb : PE X b (tB X.w G F0 H0 y)) (hc : PE X c (tB X.w G F0 H0 z)) (hm : lastMarks [coOf o, coOf o'] [b, c] = false) :
    PT X (.Compare a [coOf o, coOf o'] [b, c] pos) (tTx X.w G F0 H0 (.val (.chain o o' x y z))) := by
  obtain ⟨r, h1, h2⟩ := co_all (F0 := F0) (H0 := H0) hr o
  obtain ⟨r', h1', h2'⟩ := co_all (F0 := F0) (H0 := H0) hr o'
  refine (pt_chain h1 h1' ha hb hc hm).imp fun σ H Q ⟨F, env, P, ok, hw, fin⟩ => ?_
  have hw : bor x (wE G EF x) env fun dx e1 => bor y (wE G EF y) e1 fun dy e2 => wCmp o dx dy fun b => if b = true then bor z (wE G EF z) e2 fun dz e3 => wCmp o' dy dz fun b => P b e3 else P false e2 := hw
  exact three h2 h2' (S := fun b e => P b e) ok hw fun b e2 F2 H2 h xt ok2 => ⟨b, rfl, fin _ _ h F2 H2 xt ok2⟩

/-! ### not, and, or -/
theorem se_notv {x : Ex} (ha : PE X a (tB X.w G F0 H0 x)) : PE X (.UnaryOp .Not a pos) (tE X.w G F0 H0 (.notv x)) := by
  refine (pe_not ha).imp fun σ H Q ⟨F, env, P, ok, hw, fin⟩ => ⟨F, env, _, ok, hw, fun dx e1 h1 v F1 H1 xt1 rp1 ok1 => ?_⟩
  cases dx <;> first | exact h1.elim | skip
  cases rp1.bl
  exact ⟨_, rfl, fin _ _ h1 _ F1 H1 xt1 (.fro (.bl _)) ok1⟩
theorem cont {w : World} {x : Ex} {σ : L2.St} {Fi Hi F1 H1 : Hp} {e1 : VE} {P : R → VE → Prop} {Q : VK} (ok1 : EnvOk w F0 H0 F1 H1 e1 σ) (xt1 : Xt Fi Hi F1 H1 σ) (hw : wE G EF x e1 P)
    (fin : ∀ r e', P r e' → ∀ v F' H', Xt Fi Hi F' H' σ → RepR w Hi F' H' v r → EnvOk w F0 H0 F' H' e' σ → Q v H') : tE w G F0 H0 x σ H1 Q :=
  ⟨F1, e1, P, ok1, hw, fun r e' h v F' H' xt rp ok => fin r e' h v F' H' (xt1.trans xt) (by
    unfold RepR at rp ⊢
    split
    · rename_i q; rw [if_pos q] at rp
      obtain ⟨p, e, a, b, c⟩ := rp
      exact ⟨p, e, a, Same.free xt1.same b, c⟩
    · rename_i q; rw [if_neg q] at rp; exact rp) ok⟩
theorem se_and {x y : Ex} {rest : List Expr} (ha : PE X a (tB X.w G F0 H0 x)) (hb : PE X (.BoolOp .And (b :: rest) pos) (tE X.w G F0 H0 y)) : PE X (.BoolOp .And (a :: b :: rest) pos) (tE X.w G F0 H0 (.andv x y)) := by
  refine (pe_and ha hb).imp fun σ H Q ⟨F, env, P, ok, hw, fin⟩ => ⟨F, env, _, ok, hw, fun dx e1 h1 v F1 H1 xt1 rp1 ok1 => ?_⟩
  cases dx <;> first | exact h1.elim | skip
  rename_i c
  cases rp1.bl
  refine ⟨c, rfl, ?_⟩
  cases c with
  | true => exact cont ok1 xt1 h1 fin
  | false => exact fin _ _ h1 (.bl false) F1 H1 xt1 (.fro (.bl _)) ok1
theorem se_or {x y : Ex} {rest : List Expr} (ha : PE X a (tB X.w G F0 H0 x)) (hb : PE X (.BoolOp .Or (b :: rest) pos) (tE X.w G F0 H0 y)) : PE X (.BoolOp .Or (a :: b :: rest) pos) (tE X.w G F0 H0 (.orv x y)) := by
  refine (pe_or ha hb).imp fun σ H Q ⟨F, env, P, ok, hw, fin⟩ => ⟨F, env, _, ok, hw, fun dx e1 h1 v F1 H1 xt1 rp1 ok1 => ?_⟩
  cases dx <;> first | exact h1.elim | skip
  rename_i c
  cases rp1.bl
  refine ⟨c, rfl, ?_⟩
  cases c with
  | true => exact fin _ _ h1 (.bl true) F1 H1 xt1 (.fro (.bl _)) ok1
  | false => exact cont ok1 xt1 h1 fin
theorem se_ife {t : Tx} {x y : Ex} (ht : PT X c (tTx X.w G F0 H0 t)) (ha : PE X a (tE X.w G F0 H0 x)) (hb : PE X b (tE X.w G F0 H0 y)) : PE X (.IfExp c a b pos) (tE X.w G F0 H0 (.ife t x y)) := by
  refine (pe_ifExp ht ha hb).imp fun σ H Q ⟨F, env, P, ok, hw, fin⟩ => ⟨F, env, _, ok, hw, fun c e1 h1 F1 H1 xt1 ok1 => ?_⟩
  cases c with
  | true => exact cont ok1 xt1 h1 fin
  | false => exact cont ok1 xt1 h1 fin
theorem st_not {t : Tx} (ha : PT X a (tTx X.w G F0 H0 t)) : PT X (.UnaryOp .Not a pos) (tTx X.w G F0 H0 (.not t)) :=
  (pt_not ha).imp fun σ H Q ⟨F, env, P, ok, hw, fin⟩ => ⟨F, env, _, ok, hw, fun c e1 h1 F1 H1 xt1 ok1 => fin _ _ h1 F1 H1 xt1 ok1⟩
theorem contT {w : World} {t : Tx} {σ : L2.St} {Fi Hi F1 H1 : Hp} {e1 : VE} {P : Bool → VE → Prop} {Q : Bool → Hp → Prop} (ok1 : EnvOk w F0 H0 F1 H1 e1 σ) (xt1 : Xt Fi Hi F1 H1 σ) (hw : wT G EF t e1 P)
    (fin : ∀ b e', P b e' → ∀ F' H', Xt Fi Hi F' H' σ → EnvOk w F0 H0 F' H' e' σ → Q b H') : tTx w G F0 H0 t σ H1 Q :=
  ⟨F1, e1, P, ok1, hw, fun b e' h F' H' xt ok => fin b e' h F' H' (xt1.trans xt) ok⟩
theorem PW.imp {X : Cx} {e : Expr} {t t' : TT} (h : PW X e t) (f : ∀ σ H Q, t' σ H Q → t σ H Q) : PW X e t' := ⟨fun wh pins s σ H Q I q => h.run wh pins s σ H Q I (f σ H Q q)⟩
theorem st_and1 {t : Tx} (ha : PT X a (tTx X.w G F0 H0 t)) : PW X (.BoolOp .And [a] pos) (tTx X.w G F0 H0 t) := pw_and1 ha
theorem st_or1 {t : Tx} (ha : PT X a (tTx X.w G F0 H0 t)) : PW X (.BoolOp .Or [a] pos) (tTx X.w G F0 H0 t) := pw_or1 ha
theorem st_and {t u : Tx} {rest : List Expr} (ha : PT X a (tTx X.w G F0 H0 t)) (hb : PW X (.BoolOp .And (b :: rest) pos) (tTx X.w G F0 H0 u)) : PW X (.BoolOp .And (a :: b :: rest) pos) (tTx X.w G F0 H0 (.and t u)) :=
  PW.imp (pw_and ha hb) fun σ H Q ⟨F, env, P, ok, hw, fin⟩ => ⟨F, env, _, ok, hw, fun c e1 h1 F1 H1 xt1 ok1 => by
    cases c with
    | true => exact contT ok1 xt1 h1 fin
    | false => exact fin _ _ h1 F1 H1 xt1 ok1⟩
theorem st_or {t u : Tx} {rest : List Expr} (ha : PT X a (tTx X.w G F0 H0 t)) (hb : PW X (.BoolOp .Or (b :: rest) pos) (tTx X.w G F0 H0 u)) : PW X (.BoolOp .Or (a :: b :: rest) pos) (tTx X.w G F0 H0 (.or t u)) :=
  PW.imp (pw_or ha hb) fun σ H Q ⟨F, env, P, ok, hw, fin⟩ => ⟨F, env, _, ok, hw, fun c e1 h1 F1 H1 xt1 ok1 => by
    cases c with
    | true => exact fin _ _ h1 F1 H1 xt1 ok1
    | false => exact contT ok1 xt1 h1 fin⟩
theorem st_val {x : Ex} (ha : PE X a (tB X.w G F0 H0 x)) (he : ∀ whole, isTrue a X.env whole = (do let v ← whole; standAt a.pos; holding [v] (truthy v))) : PT X a (tTx X.w G F0 H0 (.val x)) := by
  refine (pt_truth ha he).imp fun σ H Q ⟨F, env, P, ok, hw, fin⟩ => ⟨F, env, _, ok, hw, fun dx e1 h1 v F1 H1 xt1 rp1 ok1 => ?_⟩
  cases dx with
  | non => cases rp1.non; exact ⟨false, rfl, fin _ _ h1 F1 H1 xt1 ok1⟩
  | bl c => cases rp1.bl; exact ⟨c, rfl, fin _ _ h1 F1 H1 xt1 ok1⟩
  | int i => cases rp1.int; exact ⟨_, rfl, fin _ _ h1 F1 H1 xt1 ok1⟩
  | lst ds =>
    obtain ⟨p, xs, rfl, e1, r1⟩ := rp1.lst ok1.sub
    refine ⟨!ds.isEmpty, .inl ⟨xs, .inl e1, ?_⟩, fin _ _ h1 F1 H1 xt1 ok1⟩
    cases r1 <;> rfl
  | tup ds =>
    obtain ⟨p, xs, rfl, _, e1, r1⟩ := rp1.tup ok1.sub
    refine ⟨!ds.isEmpty, .inr (.inl ⟨xs, .of e1, ?_⟩), fin _ _ h1 F1 H1 xt1 ok1⟩
    cases r1 <;> rfl
  | _ => exact h1.elim
end
end Vi
set_option Elab.async false
set_option linter.all false
set_option maxRecDepth 100000
/-! ViF: subscripts, calls, what is walked. -/
namespace Vi
open PySem PySem.Spec PyProof.Rows L2
open PySem.W (maxD dataLt alike alikeAll AlikeAll max_tuple_data)
section
variable {X : Cx} {N : List Str} {G : Str → Option (Nat × Ctr)} {k : Nat} {sc : Scope} {F0 H0 : Hp} {e a b c : Expr} {pos : Pos}

/-! ### subscripts -/
def rIxD (X : Cx) : R2 := fun x y H Q => ∃ F ks vs d v p, Same F H ∧ x = .ref p ∧ RepTop X.w F H p (.dct ks vs) ∧ KeyOk ks d ∧ Rep X.w F y d ∧ dget ks vs d = some v ∧ ∀ yv, Rep X.w F yv v → Q yv H
theorem ix_dict (hr : Room k X.A) : IxR X (rIxD X) := by
  intro value slice pins s σ H x y v u Q I rx ry h hs
  obtain ⟨F, ks, vs, d, dv, p, sF, rfl, t, ko, rk, hv, q⟩ := h
  cases (show v = Value.ref p from rx)
  have hT : s.TypeIs (.ref p) "dict" := by
    obtain ⟨o, _, _, e, _, _, _, di⟩ := t
    exact ⟨o, Inv.dictAt I e, di.ex.1⟩
  unfold subscriptTail
  refine wpAny_bind ?_
  rw [getitemInPython_of_ne hT.not_modules]
  refine wpAny_bind (wpAny_specialOf hT PySem.F.slot_dict_getitem.lookup ?_)
  have fin : wpAny (model X.prog X.w) X.A (subscripted slice false (.ref p) u) (fun r s₃ => wpAny (model X.prog X.w) X.A (letTemporaryGo value (.ref p) r >>= fun _ => pure r) (EP X pins σ Q) X.xe s₃) X.xe s := by
    rw [hs]
    exact wpAny_operating (dd_get (units16 hr) I sF t ko rk ry hv fun yv w' s' I' r1 r2 => wpAny_bind (wpAny_letTemporaryGo (wpAny_pure ⟨yv, H, I', r1, q yv r2⟩)))
  first
    | exact wpAny_pure (wpAny_bind fin)
    | exact wpAny_bind (wpAny_pure (wpAny_bind fin))
    | exact wpAny_bind fin
theorem se_idx {x y : Ex} (hr : Room k X.A) (ha : PE X a (tB X.w G F0 H0 x)) (hb : PE X b (tB X.w G F0 H0 y)) (hs : PlainIx b) : PE X (.Subscript a b pos) (tE X.w G F0 H0 (.idx x y)) := by
  refine (pe_ix ((ix_list.or ix_tup).or (ix_dict hr)) ha hb hs).imp fun σ H Q ⟨F, env, P, ok, hw, fin⟩ => two ok hw fun dx dy e2 v u F2 H2 h xt ok2 rx ry => ?_
  have f : Fin X.w F0 H0 F H F2 H2 e2 σ P Q := ⟨ok2, xt, fin⟩
  cases dx with
  | lst ds =>
    cases dy <;> first | exact False.elim h | skip
    obtain ⟨p, xs, rfl, e1, r1⟩ := rx.lst ok2.sub
    cases ry.int
    obtain ⟨dv, h1, h2⟩ := h
    obtain ⟨w', h3, h4⟩ := r1.atI h1
    exact .inl (.inl ⟨p, xs, _, w', rfl, rfl, .inl e1, h3, f.val h2 h4⟩)
  | tup ds =>
    cases dy <;> first | exact False.elim h | skip
    obtain ⟨p, xs, rfl, _, e1, r1⟩ := rx.tup ok2.sub
    cases ry.int
    obtain ⟨dv, h1, h2⟩ := h
    obtain ⟨w', h3, h4⟩ := r1.atI h1
    exact .inl (.inr ⟨p, xs, _, w', rfl, rfl, .of e1, h3, f.val h2 h4⟩)
  | dct ks vs =>
    obtain ⟨p, rfl, t⟩ := rx.dct ok2.sub
    have h' : KeyOk ks dy ∧ ∃ v, dget ks vs dy = some v ∧ P (false, v) e2 := by cases dy <;> exact h
    obtain ⟨ko, dv, h1, h2⟩ := h'
    exact .inr ⟨F2, ks, vs, dy, dv, p, ok2.sub, rfl, t, ko, ry.key ko.2.1, h1, fun yv r => f.val h2 r⟩
  | _ => exact False.elim h
theorem so_none : PO X none (tOx X.w G F0 H0 .none) := ⟨fun pins s σ H Q I ⟨F, env, P, ok, hw, fin⟩ => po_none.run pins s σ H Q I (fin _ _ hw F H .refl ok)⟩
theorem so_some {x : Ex} (ha : PE X a (tB X.w G F0 H0 x)) : PO X (some a) (tOx X.w G F0 H0 (.some x)) := ⟨fun pins s σ H Q I ⟨F, env, P, ok, hw, fin⟩ => by
  have hw : bor x (wE G EF x) env fun dx e1 => (match dx with | .int i => P (some i) e1 | _ => False) := hw
  refine (po_some ha).run pins s σ H Q I ⟨F, env, _, ok, hw, fun dx e1 h1 v F1 H1 xt1 rp1 ok1 => ?_⟩
  cases dx <;> first | exact False.elim h1 | skip
  cases rp1.int
  exact ⟨_, rfl, fin _ _ h1 F1 H1 xt1 ok1⟩⟩
theorem se_slc {x : Ex} {lo hi : Option Expr} {l h : Ox} {p2 : Pos} (ha : PE X a (tB X.w G F0 H0 x)) (hl : PO X lo (tOx X.w G F0 H0 l)) (hh : PO X hi (tOx X.w G F0 H0 h)) : PE X (.Subscript a (.Slice lo hi none p2) pos) (tE X.w G F0 H0 (.slc x l h)) := by
  refine (pe_slice (sl_list.or sl_tup) ha hl hh).imp fun σ H Q ⟨F, env, P, ok, hw, fin⟩ => ⟨F, env, _, ok, hw, fun dx e1 h1 v F1 H1 xt1 rp1 ok1 => ⟨F1, e1, _, ok1, h1, fun li e2 h2 F2 H2 xt2 ok2 => ⟨F2, e2, _, ok2, h2, fun hi e3 h3 F3 H3 xt3 ok3 => ?_⟩⟩⟩
  have f : Fin X.w F0 H0 F H F3 H3 e3 σ P Q := ⟨ok3, xt1.trans (xt2.trans xt3), fin⟩
  have rp := (rp1.mono xt2.sub xt2.same).mono xt3.sub xt3.same
  cases dx <;> first | exact False.elim h3 | skip
  · obtain ⟨p, xs, rfl, _, e1, r1⟩ := rp.tup ok3.sub
    exact .inr ⟨p, xs, rfl, .of e1, by rw [r1.length]; exact h3.1, fun t ht => f.tup h3.2 (r1.cut _ _) ht⟩
  · obtain ⟨p, xs, rfl, e1, r1⟩ := rp.lst ok3.sub
    exact .inl ⟨p, xs, rfl, .inl e1, fun t ht => f.lst h3 (r1.cut _ _) ht⟩

/-! ### calls -/
def NoStar (e : Expr) : Prop := ∀ es env, starEach (e :: es) env = (false, eval e env) :: starEach es env
theorem se_call {f : Str} {es : List Expr} {exs : Exs} {pp : Pos} (C : Cok X N G k sc) (hg : sc.names.lookup f = some .globalImplicit) (ha : PA X (e :: es) (tEs X.w G F0 H0 exs)) (hdb : (f == ("__debug__" : Str)) = false) (hs : NoStar e)
    (hpl : ∀ env, (backTo pos (starEach es env)).any (·.1) = false) (hG : (G f).isSome = true) : PE X (.Call (.Name f pp) (e :: es) [] pos) (tE X.w G F0 H0 (.call f exs)) := by
  cases hc : G f with
  | none => rw [hc] at hG; cases hG
  | some ct =>
    obtain ⟨fa, fd, j, ps, h1, h2, h3, h4, h6, h5⟩ := C.calls f ct hc
    refine (pe_call (E := E0) h5 (C.room.mono h4) (by show X.env.scope.names.lookup f = _; rw [C.scp]; exact hg) h1 h2 h3 .nil pass0 ha hdb (hs es X.env) (hpl X.env)).imp fun σ H Q ⟨F, env, P, ok, hw, fin⟩ => ?_
    obtain ⟨ct', e1, hw⟩ := (hw : ∃ c, G f = some c ∧ wEs G EF exs env fun ds e => ds.length = c.1 ∧ c.2 ds (fun r => P r e) fun x => EF x e)
    rw [hc] at e1; cases e1
    refine ⟨F, env, _, ok, hw, fun ds e1 ⟨hl, hd⟩ vs F1 H1 xt1 rp1 ok1 => ?_⟩
    show spOf X.w ct.1 ct.2 (vs ++ []) H1 Q E0
    rw [List.append_nil]
    refine ⟨F1, ds, _, hl, ok1.sub, rp1, hd, fun r hr v F' H' s1 s2 s3 fr rp => ?_⟩
    have xt' : Xt F1 H1 F' H' σ := ⟨s1, s3, fun a q1 q2 _ => by
      cases q : F' a with
      | none => rfl
      | some o =>
        rcases fr a (by rw [q]; exact fun z => nomatch z) with z | z
        · exact absurd q1 z
        · exact absurd z q2⟩
    refine fin r e1 hr v F' H' (xt1.trans xt') ?_ (ok1.grow s1 s2 s3 fr)
    unfold RepR at rp ⊢
    split
    · rename_i q; rw [if_pos q] at rp
      obtain ⟨p, e, a, b, c⟩ := rp
      exact ⟨p, e, a, Same.free xt1.same b, c⟩
    · rename_i q; rw [if_neg q] at rp; exact rp
/-- one operand, by its value -/
theorem one {w : World} {x : Ex} {σ : L2.St} {H : Hp} {Fi : Hp} {env : VE} {R' : V → Hp → Prop} {S : D → VE → Prop} (ok : EnvOk w F0 H0 Fi H env σ) (hw : bor x (wE G EF x) env S)
    (fin : ∀ dx e2 v F2 H2, S dx e2 → Xt Fi H F2 H2 σ → EnvOk w F0 H0 F2 H2 e2 σ → RepW w F2 H2 v dx → R' v H2) : tB w G F0 H0 x σ H fun v H1 => R' v H1 :=
  ⟨Fi, env, _, ok, hw, fun dx e1 h1 v F1 H1 xt1 rp1 ok1 => fin dx e1 v F1 H1 h1 xt1 ok1 rp1⟩

/-! ### built-in functions -/
theorem call_len_dictO : CallR X (.builtin "len") (fun xs H Q => ∃ F ks vs p, xs = [.ref p] ∧ RepTop X.w F H p (.dct ks vs) ∧ Q (.int ks.length) H) := by
  intro pins s σ H xs us Q I r h
  obtain ⟨F, ks, vs, p, rfl, ⟨o, yks, yvs, e, hs, r1, r2, di⟩, q⟩ := h
  rw [Vals.ref1 r]
  obtain ⟨es, ep, h1, h2⟩ := di.dat
  have hraw : s.heap.DictRaw p es ep := ⟨o, Inv.dictAt I e, di.ex, h1⟩
  have hsz : es.size = ks.length := by
    have : ∀ {es : List DictEntry} {a b : List V} {ks : List D}, EntsAre X.w es a b ks → es.length = ks.length := by
      intro es a b ks h
      induction h with
      | nil => rfl
      | cons _ _ _ _ _ ih => simp [ih]
    simpa using this h2
  have hz := di.sz
  have hT : s.TypeIs (.ref p) "dict" := ⟨o, Inv.dictAt I e, di.ex.1⟩
  refine PyProof.Rows.call_len_slot (n := ks.length) hT PySem.F.slot_dict_len (fun Q' hq => ?_) (by omega) (by rw [sizeLine_eq] at hz; omega) ⟨.int _, H, I.tok _, ⟨_, rfl⟩, q⟩
  exact call_len_raw hs hraw (by rw [hsz]; exact hq)
theorem maxD_ints : ∀ (ns : List Int) (n : Int), ∃ m, maxD (.int n) (ns.map PyData.int) = .int m ∧ m ∈ n :: ns ∧ ∀ y ∈ n :: ns, y ≤ m
  | [], n => ⟨n, rfl, List.mem_cons_self, fun y hy => by simp at hy; omega⟩
  | a :: ns, n => by
    have step : maxD (.int n) ((a :: ns).map PyData.int) = maxD (if dataLt (.int n) (.int a) = true then .int a else .int n) (ns.map PyData.int) := rfl
    have hlt : dataLt (.int n) (.int a) = decide (n < a) := PySem.W.dataLt_int n a
    rw [step, hlt]
    by_cases h : n < a
    · rw [if_pos (decide_eq_true h)]
      obtain ⟨m, e, h1, h2⟩ := maxD_ints ns a
      refine ⟨m, e, List.mem_cons_of_mem _ h1, fun y hy => ?_⟩
      have := h2 a List.mem_cons_self
      rcases List.mem_cons.mp hy with rfl | hy
      · omega
      · exact h2 y hy
    · rw [if_neg (by simpa using h)]
      obtain ⟨m, e, h1, h2⟩ := maxD_ints ns n
      refine ⟨m, e, ?_, fun y hy => ?_⟩
      · rcases List.mem_cons.mp h1 with rfl | h1
        · exact List.mem_cons_self
        · exact List.mem_cons_of_mem _ (List.mem_cons_of_mem _ h1)
      · have := h2 n List.mem_cons_self
        rcases List.mem_cons.mp hy with rfl | hy
        · exact this
        · rcases List.mem_cons.mp hy with rfl | hy
          · omega
          · exact h2 y (List.mem_cons_of_mem _ hy)
theorem reads_ints {h : Heap} : ∀ {us : List Value} {ns : List Int}, Vals (ns.map V.int) us → ∃ as, ReadsAll h us (ns.map PyData.int) as
  | _, [], .nil => ⟨_, .nil⟩
  | _, n :: ns, .cons r t => by
    obtain ⟨t', rfl⟩ := r
    obtain ⟨as, q⟩ := reads_ints t
    exact ⟨_, .cons (.int n t') q⟩
theorem alike_ints (ns : List Int) : AlikeAll (ns.map PyData.int) := by
  refine ⟨fun x hx y hy => ?_, fun x hx => ?_⟩
  · obtain ⟨i, _, rfl⟩ := List.mem_map.mp hx
    obtain ⟨j, _, rfl⟩ := List.mem_map.mp hy
    rfl
  · obtain ⟨i, _, rfl⟩ := List.mem_map.mp hx
    exact fun z => nomatch z
theorem depth_ints : ∀ ns : List Int, PyData.depthAll (ns.map PyData.int) = 0
  | [] => rfl
  | n :: ns => by
    show max (PyData.depth (.int n)) (PyData.depthAll (ns.map PyData.int)) = 0
    rw [depth_ints ns]; rfl
theorem cr_maxT (hr : Room k X.A) (hc : X.calm = true) : CallR X (.builtin "max") (fun vs H Q => ∃ (a : Addr) (ns : List Int), vs = [V.ref a] ∧ SqT X.K H a (ns.map V.int) ∧ 0 < ns.length ∧ ∀ m, m ∈ ns → (∀ y, y ∈ ns → y ≤ m) → Q (.int m) H) := by
  intro pins s σ H vs us Q I r h
  obtain ⟨a, ns, rfl, hs, hne, q⟩ := h
  obtain ⟨its, rv, hl, _⟩ := I.tuple hs
  rw [Vals.ref1 r]
  cases ns with
  | nil => simp at hne
  | cons n ns =>
    obtain ⟨as, ra⟩ := reads_ints (h := s.heap) rv
    obtain ⟨m, e, h1, h2⟩ := maxD_ints ns n
    have hu := units16 hr
    refine max_tuple_data (I.ok.hd hc) (show s.heap.IsTuple a its.toArray from hl) (x := .int n) (xs := ns.map PyData.int) ra (alike_ints (n :: ns)) (by have := depth_ints (n :: ns); rw [List.map_cons] at this; rw [this]; omega) fun i v h' tk bs hv hr' hk => ?_
    rw [e] at hr'
    cases hr' with
    | int _ t => exact ⟨.int m, H, I.kept hk, ⟨t, rfl⟩, q m h1 h2⟩

/-- an argument that is read -/
theorem sa_bor {x : Ex} (ha : PE X a (tB X.w G F0 H0 x)) (hs : NoStar a) : PA X [a] (tCons (tB X.w G F0 H0 x) tNil) := pa_cons ha pa_nil (hs [] X.env)
theorem sa_bor2 {x y : Ex} (ha : PE X a (tB X.w G F0 H0 x)) (hb : PE X b (tB X.w G F0 H0 y)) (hs : NoStar a) (hs2 : NoStar b) : PA X [a, b] (tCons (tB X.w G F0 H0 x) (tCons (tB X.w G F0 H0 y) tNil)) := pa_cons ha (pa_cons hb pa_nil (hs2 [] X.env)) (hs [b] X.env)
def f1n : F1 → Str
  | .len => "len"
  | .int => "int"
  | .tuple => "tuple"
  | .list => "list"
  | .max => "max"
  | .abs => "abs"
def f2n : F2 → Str
  | .max => "max"
  | .min => "min"
theorem nostar_any (hs : NoStar a) (env : Env) : (backTo pos (starEach [a] env)).any (·.1) = false := by rw [hs [] env]; rfl
theorem nostar_tl (hs : NoStar b) (env : Env) : (backTo pos (starEach [b] env)).any (·.1) = false := by rw [hs [] env]; rfl
theorem se_fn1 {x : Ex} {pp : Pos} (f : F1) (C : Cok X N G k sc) (hg : sc.names.lookup (f1n f) = some .globalImplicit) (ha : PE X a (tB X.w G F0 H0 x)) (hs : NoStar a) : PE X (.Call (.Name (f1n f) pp) [a] [] pos) (tE X.w G F0 H0 (.fn1 f x)) := by
  have hg' : ∀ y, sc.names.lookup y = some .globalImplicit → Gl X y := fun y h => by show X.env.scope.names.lookup y = _; rw [C.scp]; exact h
  have hA := sa_bor ha hs
  have he := hs [] X.env
  cases f with
  | len =>
    refine (pe_callB (call_len_seq.or call_len_dictO) (hg' _ hg) (C.free _ (by simp [f1n, bnames])) boot_len hA (by decide) (by decide) he rfl).imp fun σ H Q ⟨F, env, P, ok, hw, fin⟩ => one ok hw fun dx e2 v F2 H2 h xt ok2 rx => ?_
    have f : Fin X.w F0 H0 F H F2 H2 e2 σ P Q := ⟨ok2, xt, fin⟩
    cases dx <;> first | exact False.elim h | skip
    · obtain ⟨p, xs, rfl, _, e1, r1⟩ := rx.tup ok2.sub
      exact .inl ⟨p, xs, rfl, .inr (.of e1), by rw [r1.length]; exact f.val h (.int _)⟩
    · obtain ⟨p, xs, rfl, e1, r1⟩ := rx.lst ok2.sub
      exact .inl ⟨p, xs, rfl, .inl (.inl e1), by rw [r1.length]; exact f.val h (.int _)⟩
    · obtain ⟨p, rfl, t⟩ := rx.dct ok2.sub
      exact .inr ⟨F2, _, _, p, rfl, t, f.val h (.int _)⟩
  | int =>
    refine (pe_callTy call_int1 (hg' _ hg) (C.free _ (by simp [f1n, bnames])) (by decide +kernel) hA (by decide) (by decide) he rfl).imp fun σ H Q ⟨F, env, P, ok, hw, fin⟩ => one ok hw fun dx e2 v F2 H2 h xt ok2 rx => ?_
    have f : Fin X.w F0 H0 F H F2 H2 e2 σ P Q := ⟨ok2, xt, fin⟩
    cases dx <;> first | exact False.elim h | skip
    · cases rx.bl; exact .inr ⟨_, rfl, f.val h (.int _)⟩
    · cases rx.int; exact .inl ⟨_, rfl, f.val h (.int _)⟩
  | tuple =>
    refine (pe_callTy call_tuple_of (hg' _ hg) (C.free _ (by simp [f1n, bnames])) (by decide +kernel) hA (by decide) (by decide) he rfl).imp fun σ H Q ⟨F, env, P, ok, hw, fin⟩ => one ok hw fun dx e2 v F2 H2 h xt ok2 rx => ?_
    have f : Fin X.w F0 H0 F H F2 H2 e2 σ P Q := ⟨ok2, xt, fin⟩
    cases dx <;> first | exact False.elim h | skip
    · obtain ⟨p, xs, rfl, e0, e1, r1⟩ := rx.tup ok2.sub
      exact ⟨p, xs, rfl, .inr ⟨.of e1, f.val h (.tup e0 r1)⟩⟩
    · obtain ⟨p, xs, rfl, e1, r1⟩ := rx.lst ok2.sub
      exact ⟨p, xs, rfl, .inl ⟨.inl e1, fun t ht => f.tup h r1 ht⟩⟩
  | list =>
    refine (pe_callTy call_list_of (hg' _ hg) (C.free _ (by simp [f1n, bnames])) (by decide +kernel) hA (by decide) (by decide) he rfl).imp fun σ H Q ⟨F, env, P, ok, hw, fin⟩ => one ok hw fun dx e2 v F2 H2 h xt ok2 rx => ?_
    have f : Fin X.w F0 H0 F H F2 H2 e2 σ P Q := ⟨ok2, xt, fin⟩
    cases dx <;> first | exact False.elim h | skip
    · obtain ⟨p, xs, rfl, e0, e1, r1⟩ := rx.tup ok2.sub
      exact ⟨p, xs, rfl, .inr (.of e1), fun t ht => f.lst h r1 ht⟩
    · obtain ⟨p, xs, rfl, e1, r1⟩ := rx.lst ok2.sub
      exact ⟨p, xs, rfl, .inl (.inl e1), fun t ht => f.lst h r1 ht⟩
  | max =>
    refine (pe_callB ((cr_max C.calm).or (cr_maxT C.room C.calm)) (hg' _ hg) (C.free _ (by simp [f1n, bnames])) (by decide +kernel) hA (by decide) (by decide) he rfl).imp fun σ H Q ⟨F, env, P, ok, hw, fin⟩ => one ok hw fun dx e2 v F2 H2 h xt ok2 rx => ?_
    have f : Fin X.w F0 H0 F H F2 H2 e2 σ P Q := ⟨ok2, xt, fin⟩
    cases dx <;> first | exact False.elim h | skip
    · obtain ⟨p, xs, rfl, _, e1, r1⟩ := rx.tup ok2.sub
      obtain ⟨ns, hn, h0, h⟩ := h
      rw [r1.allI hn] at e1
      exact .inr ⟨p, ns, rfl, .of e1, h0, fun m h1 h2 => f.val (h m h1 h2) (.int _)⟩
    · obtain ⟨p, xs, rfl, e1, r1⟩ := rx.lst ok2.sub
      obtain ⟨ns, hn, h0, h⟩ := h
      rw [r1.allI hn] at e1
      exact .inl ⟨p, ns, rfl, .inl e1, h0, fun m h1 h2 => f.val (h m h1 h2) (.int _)⟩
  | abs =>
    refine (pe_callB call_abs (hg' _ hg) (C.free _ (by simp [f1n, bnames])) (by decide +kernel) hA (by decide) (by decide) he rfl).imp fun σ H Q ⟨F, env, P, ok, hw, fin⟩ => one ok hw fun dx e2 v F2 H2 h xt ok2 rx => ?_
    have f : Fin X.w F0 H0 F H F2 H2 e2 σ P Q := ⟨ok2, xt, fin⟩
    cases dx <;> first | exact False.elim h | skip
    cases rx.int; exact ⟨_, rfl, f.val h (.int _)⟩
theorem se_fn2 {x y : Ex} {pp : Pos} (f : F2) (C : Cok X N G k sc) (hg : sc.names.lookup (f2n f) = some .globalImplicit) (ha : PE X a (tB X.w G F0 H0 x)) (hb : PE X b (tB X.w G F0 H0 y)) (hs : NoStar a) (hs2 : NoStar b) : PE X (.Call (.Name (f2n f) pp) [a, b] [] pos) (tE X.w G F0 H0 (.fn2 f x y)) := by
  have hg' : ∀ y, sc.names.lookup y = some .globalImplicit → Gl X y := fun y h => by show X.env.scope.names.lookup y = _; rw [C.scp]; exact h
  have hA := sa_bor2 ha hb hs hs2
  have he := hs [b] X.env
  cases f with
  | max =>
    refine (pe_callB (call_max2 C.calm) (hg' _ hg) (C.free _ (by simp [f2n, bnames])) (by decide +kernel) hA (by decide) (by decide) he (nostar_tl hs2 X.env)).imp fun σ H Q ⟨F, env, P, ok, hw, fin⟩ => two ok hw fun dx dy e2 v u F2 H2 h xt ok2 rx ry => ?_
    have f : Fin X.w F0 H0 F H F2 H2 e2 σ P Q := ⟨ok2, xt, fin⟩
    cases dx <;> cases dy <;> first | exact False.elim h | skip
    cases rx.int; cases ry.int; exact ⟨_, _, rfl, f.val h (.int _)⟩
  | min =>
    refine (pe_callB (call_min2 C.calm) (hg' _ hg) (C.free _ (by simp [f2n, bnames])) (by decide +kernel) hA (by decide) (by decide) he (nostar_tl hs2 X.env)).imp fun σ H Q ⟨F, env, P, ok, hw, fin⟩ => two ok hw fun dx dy e2 v u F2 H2 h xt ok2 rx ry => ?_
    have f : Fin X.w F0 H0 F H F2 H2 e2 σ P Q := ⟨ok2, xt, fin⟩
    cases dx <;> cases dy <;> first | exact False.elim h | skip
    cases rx.int; cases ry.int; exact ⟨_, _, rfl, f.val h (.int _)⟩
/-! ### isinstance -/
theorem tyOf {F H : Hp} {K : PySem.W.Frag} {v : V} {d : D} (h : RepW X.w F H v d) (s : Same F H) (hp : isPl d = true) : TyX K H v (.type (tyN d)) := by
  cases d with
  | non => cases h.non; exact .base .non
  | bl b => cases h.bl; exact .base (.bl b)
  | int i => cases h.int; exact .base (.int i)
  | str x => cases h.str; exact .base (.str x)
  | tup ds => obtain ⟨p, xs, rfl, _, e, _⟩ := h.tup s; exact .base (.tup e)
  | lst ds =>
    obtain ⟨p, xs, rfl, e, _⟩ := h.lst s
    rcases e with e | ⟨o, e⟩
    · exact .base (.lst e)
    · exact .base (.frz e)
  | _ => cases hp
theorem se_isi {x : Ex} {t : String} {T : Str} {pp p2 : Pos} (C : Cok X N G k sc) (hg : sc.names.lookup ("isinstance" : Str) = some .globalImplicit) (hg2 : sc.names.lookup T = some .globalImplicit) (hT : bootBuiltins T = some (.type t)) (hTf : T ∈ bnames ∨ X.mg T = none)
    (hn : T ≠ "__name__") (hd : (T == ("__debug__" : Str)) = false) (ha : PE X a (tB X.w G F0 H0 x)) (hs : NoStar a) : PE X (.Call (.Name ("isinstance" : Str) pp) [a, .Name T p2] [] pos) (tE X.w G F0 H0 (.isi x t)) := by
  have hg' : ∀ y, sc.names.lookup y = some .globalImplicit → Gl X y := fun y h => by show X.env.scope.names.lookup y = _; rw [C.scp]; exact h
  have hf : X.mg T = none := hTf.elim (C.free T) id
  refine (pe_callB call_isi (hg' _ hg) (C.free _ (by simp [bnames])) (by decide +kernel) (pa_cons ha (pa_cons (pe_bltn (v := .ty t) (hg' _ hg2) hf hT rfl hn hd) pa_nil) (hs _ X.env)) (by decide) (by decide) (hs _ X.env) rfl).imp fun σ H Q ⟨F, env, P, ok, hw, fin⟩ => one ok hw fun dx e2 v F2 H2 h xt ok2 rx => ?_
  obtain ⟨hp, b, hk, h⟩ := h
  exact ⟨v, .ty t, _, _, b, rfl, .ty t, tyOf rx ok2.sub hp, kit_ty hk, fin _ _ h (.bl b) F2 H2 xt (.fro (.bl b)) ok2⟩
theorem kitA_ok {K : PySem.W.Frag} {t : String} : ∀ {ts : List String} {b : Bool}, kitA t ts = some b → PySem.W.kitAny K (.type t) (ts.map Value.type) = some b
  | [], b, h => by cases h; rfl
  | c :: cs, b, h => by
    unfold kitA at h
    cases q : kitB t c with
    | none => rw [q] at h; cases h
    | some r =>
      rw [q] at h
      refine kitAny_cons (kit_ty q) (fun e => ?_) (fun e => ?_)
      · subst e; exact kitA_ok h
      · subst e; cases h; rfl
theorem sa_tys (C : Cok X N G k sc) : ∀ {Ts : List Str} {ps : List Pos} {ts : List String}, Ts.length = ps.length → Ts.map bootBuiltins = ts.map (fun t => some (.type t)) → (∀ T ∈ Ts, sc.names.lookup T = some .globalImplicit ∧ (X.mg T = none) ∧ T ≠ "__name__" ∧ (T == ("__debug__" : Str)) = false) →
    PA X ((Ts.zip ps).map fun q => .Name q.1 q.2) (fun _ H Q => Q (ts.map V.ty) H)
  | [], [], [], _, _, _ => pa_nil
  | [], _ :: _, _, e, _, _ => by simp at e
  | _ :: _, [], _, e, _, _ => by simp at e
  | [], [], _ :: _, _, e, _ => by simp at e
  | _ :: _, _ :: _, [], _, e, _ => by simp at e
  | T :: Ts, p :: ps, t :: ts, e, e2, h => by
    simp only [List.map_cons, List.cons.injEq] at e2
    obtain ⟨h1, h2, h3, h4⟩ := h T List.mem_cons_self
    exact pa_cons (pe_bltn (v := .ty t) (by show X.env.scope.names.lookup T = _; rw [C.scp]; exact h1) h2 e2.1 rfl h3 h4) (sa_tys C (by simpa using e) e2.2 fun T' hT => h T' (List.mem_cons_of_mem _ hT)) rfl
theorem se_isiT {x : Ex} {ts : List String} {Ts : List Str} {ps : List Pos} {pp p2 : Pos} {kt} (C : Cok X N G k sc) (hg : sc.names.lookup ("isinstance" : Str) = some .globalImplicit) (hl : Ts.length = ps.length) (hT : Ts.map bootBuiltins = ts.map (fun t => some (.type t)))
    (hh : ∀ T ∈ Ts, sc.names.lookup T = some .globalImplicit ∧ (X.mg T = none) ∧ T ≠ "__name__" ∧ (T == ("__debug__" : Str)) = false) (hz : ts.length ≤ 1000) (ha : PE X a (tB X.w G F0 H0 x)) (hs : NoStar a) :
    PE X (.Call (.Name ("isinstance" : Str) pp) [a, .Tuple ((Ts.zip ps).map fun q => .Name q.1 q.2) kt p2] [] pos) (tE X.w G F0 H0 (.isiT x ts)) := by
  have hg' : ∀ y, sc.names.lookup y = some .globalImplicit → Gl X y := fun y h => by show X.env.scope.names.lookup y = _; rw [C.scp]; exact h
  refine (pe_callB call_isiT (hg' _ hg) (C.free _ (by simp [bnames])) (by decide +kernel) (pa_cons ha (pa_cons (pe_tup (sa_tys C hl hT hh)) pa_nil) (hs _ X.env)) (by decide) (by decide) (hs _ X.env) rfl).imp fun σ H Q ⟨F, env, P, ok, hw, fin⟩ => one ok hw fun dx e2 v F2 H2 h xt ok2 rx => ?_
  obtain ⟨hp, b, hk, h⟩ := h
  refine ⟨by rw [List.length_map]; exact Nat.le_trans hz (by decide), fun p hp' => ?_⟩
  have s2 : Same H2 (upd H2 p (.tup (ts.map V.ty))) := same_new hp'
  have pr : ∀ ts : List String, Paired ClsV (ts.map V.ty) (ts.map Value.type) := fun ts => by
    induction ts with
    | nil => exact .nil
    | cons t ts ih => exact .cons (.ty t) ih
  exact ⟨v, p, _, _, _, b, rfl, upd_same, pr ts, tyOf (rx.mono (Same.refl _) s2) (ok2.sub.trans s2) hp, kitA_ok hk, fin _ _ h (.bl b) F2 _ (xt.trans (.growH s2)) (.fro (.bl b)) (ok2.growH s2)⟩
end
end Vi
set_option Elab.async false
set_option linter.all false
set_option maxRecDepth 100000
/-! ViH: what is walked; comprehensions; dict displays. -/
namespace Vi
open PySem PySem.Spec PyProof.Rows L2
section
variable {X : Cx} {N : List Str} {G : Str → Option (Nat × Ctr)} {k : Nat} {sc : Scope} {F0 H0 : Hp} {e a b c tg : Expr} {pos : Pos}

/-! ### a list or a tuple -/
def iSeq (K : PySem.W.Frag) (tl : TE) : TI := fun σ H R => tl σ H fun x H1 => ∃ a, x = .ref a ∧ (((∃ xs, Rd H1 a (.lst xs)) ∧ R (Itl K a) H1) ∨ ((∃ xs, H1 a = some (.tup xs)) ∧ R (Itt K a) H1))
theorem pi_seqX {tl : TE} (hl : PE X a tl) : PI X tg a (iSeq X.K tl) := by
  refine ⟨fun pins s σ H R I h => ?_⟩
  refine thn (hl.run pins s σ H _ I h) fun v s1 ⟨x, H1, I1, r1, p, e, q⟩ => ?_
  subst e
  cases (show v = Value.ref p from r1)
  rcases q with ⟨⟨xs, hx⟩, q⟩ | ⟨⟨xs, hx⟩, q⟩
  · obtain ⟨its, rv, pl, hz⟩ := I1.list (.inl hx)
    refine wpAny_pyIter_list pl.isList ?_
    refine ⟨s1.heap.objs.size, [s1.heap.objs.size], _, _, H1, rfl, I1.kept (t' := s1.toks) fun b o e => Heap.get?_push_of_some _ e, turn_list p _, ⟨_, Heap.get?_push_size _ rfl, rfl, rfl⟩, fun b hb => ?_, q⟩
    have e : b = s1.heap.objs.size := by simpa using hb
    subst e
    exact I1.fpOk (Nat.le_refl _) (I1.hok.fresh (Nat.le_refl _))
  · obtain ⟨its, rv, pl, hz⟩ := I1.tuple (SqT.of hx)
    refine wpAny_pyIter_tuple (show s1.heap.IsTuple p its.toArray from pl) ?_
    refine ⟨s1.heap.objs.size, [s1.heap.objs.size], _, _, H1, rfl, I1.kept (t' := s1.toks) fun b o e => Heap.get?_push_of_some _ e, turn_tuple p _, ⟨_, Heap.get?_push_size _ rfl, rfl, rfl⟩, fun b hb => ?_, q⟩
    have e : b = s1.heap.objs.size := by simpa using hb
    subst e
    exact I1.fpOk (Nat.le_refl _) (I1.hok.fresh (Nat.le_refl _))
theorem itl_rep {w : World} {K : PySem.W.Frag} {B F : Hp} {p : Addr} {xs : List V} {ds : List D} (hx : Rd B p (.lst xs)) (r : Reps w F xs ds) : ItRep w B F (Itl K p) ds where
  go := fun i d H' hd s => by
    obtain ⟨v, hv, _⟩ := r.get hd
    exact ⟨xs, v, .inl (Rd.mono s hx), hv⟩
  yld := fun i d x H' H'' hd s y => by
    obtain ⟨e, y⟩ := y
    subst e
    refine ⟨Same.refl _, fun F' s1 s2 => ⟨F', Same.refl _, s2, fun a h => .inl h, ?_⟩⟩
    obtain ⟨v, hv, rv⟩ := r.get hd
    have := y xs (.inl (Rd.mono s hx))
    rw [hv] at this; cases this
    exact rv.mono s1
  stop := fun H' s => ⟨xs, .inl (Rd.mono s hx), by rw [r.length]; exact Nat.le_refl _⟩
theorem itt_rep {w : World} {K : PySem.W.Frag} {B F : Hp} {p : Addr} {xs : List V} {ds : List D} (hx : B p = some (.tup xs)) (r : Reps w F xs ds) : ItRep w B F (Itt K p) ds where
  go := fun i d H' hd s => by
    obtain ⟨v, hv, _⟩ := r.get hd
    exact ⟨xs, v, .of (s _ _ hx), hv⟩
  yld := fun i d x H' H'' hd s y => by
    obtain ⟨e, y⟩ := y
    subst e
    refine ⟨Same.refl _, fun F' s1 s2 => ⟨F', Same.refl _, s2, fun a h => .inl h, ?_⟩⟩
    obtain ⟨v, hv, rv⟩ := r.get hd
    have := y xs (.of (s _ _ hx))
    rw [hv] at this; cases this
    exact rv.mono s1
  stop := fun H' s => ⟨xs, .of (s _ _ hx), by rw [r.length]; exact Nat.le_refl _⟩
theorem itr_rep {w : World} {B F : Hp} {lo : Int} {n : Nat} : ItRep w B F (Itr lo n) ((List.range n).map fun (k : Nat) => D.int (lo + (k : Int))) where
  go := fun i d H' hd s => by
    rw [List.getElem?_map] at hd
    cases q : (List.range n)[i]? with
    | none => rw [q] at hd; cases hd
    | some j =>
      have := (List.getElem?_eq_some_iff.mp q).1
      show i < n
      simpa using this
  yld := fun i d x H' H'' hd s y => by
    obtain ⟨e, y⟩ := y
    subst e y
    refine ⟨Same.refl _, fun F' s1 s2 => ⟨F', Same.refl _, s2, fun a h => .inl h, ?_⟩⟩
    rw [List.getElem?_map] at hd
    cases q : (List.range n)[i]? with
    | none => rw [q] at hd; cases hd
    | some j =>
      rw [q] at hd
      obtain ⟨h1, h2⟩ := List.getElem?_eq_some_iff.mp q
      rw [List.getElem_range] at h2
      subst h2
      cases hd
      exact .int _
  stop := fun H' s => by show n ≤ _; simp

/-! ### a dict's values -/
def ItvX (d : Addr) (o : Obj) (yvs : List V) : L2.It := ⟨fun i H => H d = some (dictO o d) ∧ i < yvs.length, fun i H x H' => H' = H ∧ yvs[i]? = some x, fun i H => H d = some (dictO o d) ∧ yvs.length ≤ i⟩
theorem ents_vals {w : World} : ∀ {es : List DictEntry} {a b : List V} {ks : List D}, EntsAre w es a b ks → Vals b (es.map (·.val))
  | _, _, _, _, .nil => .nil
  | _, _, _, _, .cons _ r _ _ t => .cons r (ents_vals t)
theorem ents_keysLen {w : World} : ∀ {es : List DictEntry} {a b : List V} {ks : List D}, EntsAre w es a b ks → es.length = ks.length
  | _, _, _, _, .nil => rfl
  | _, _, _, _, .cons _ _ _ _ t => by simp [ents_keysLen t]
theorem turn_valsX {P : Program} {w : World} {K : PySem.W.Frag} {d : Addr} {o : Obj} {es : Array DictEntry} {ep : Nat} {yvs : List V} (it : Addr) (hex : o.ExactDict) (hod : o.data = .dict es ep) (hv : Vals yvs (es.toList.map (·.val))) :
    Turn P w K tg (ItvX d o yvs) [it] it (fun i h => h.IsValIter it d i es.size ep) where
  mem := by simp
  obj := fun i h st b hb => by
    have e : b = it := by simpa using hb
    subst e
    obtain ⟨oi, e, c, dd⟩ := st
    exact ⟨oi, e, fun v z => by rw [dd] at z; cases z⟩
  keep := fun i h h' st k => st.at fun oi e => k it (by simp) oi e
  item := by
    intro X hP hw hK hc i pins s σ H E I hf st hg
    subst hP hw hK
    obtain ⟨hd, hi⟩ := hg
    obtain ⟨f0, f1, f2, f3, f4, f5⟩ := hf it (by simp)
    have hlen : yvs.length = es.size := by have := hv.length; simpa using this
    have hm : s.heap.DictRaw d es ep := ⟨o, Inv.dictAt I hd, hex, hod⟩
    have hi' : i < es.size := by omega
    refine wpAny_pyNext_values_item_raw st hm hi' fun h' st' sb => ?_
    have I1 : L2.Inv X pins σ H { s with heap := h' } := I.turned (t' := s.toks) (fun b ob hb e => (sb.2 b hb).trans e) f0 f1 f3 f4 f5
    obtain ⟨oi, e, c, dd⟩ := id st'
    obtain ⟨u, hu, ru⟩ := hv.get (List.getElem?_eq_getElem hi)
    have eu : u = es[i].val := by
      rw [List.getElem?_map, List.getElem?_eq_getElem (by simpa using hi')] at hu
      simpa using hu.symm
    refine ⟨es[i].val, rfl, go_of (s := { s with heap := h' }) e c dd (by decide) ⟨yvs[i], H, I1, by rw [← eu]; exact ru, ⟨rfl, List.getElem?_eq_getElem hi⟩, st', fun b hb => (hf b hb).1⟩⟩
  done := by
    intro X hP hw hK hc i pins s σ H E I hf st hg
    subst hP hw hK
    obtain ⟨hd, hi⟩ := hg
    obtain ⟨f0, f1, f2, f3, f4, f5⟩ := hf it (by simp)
    have hlen : yvs.length = es.size := by have := hv.length; simpa using this
    have hm : s.heap.DictRaw d es ep := ⟨o, Inv.dictAt I hd, hex, hod⟩
    exact wpAny_pyNext_values_end_raw (I.ok.hd hc) st hm (by omega) fun h' eb => ⟨rfl, I.turned (t' := s.toks) (fun b ob hb e => eb b ob hb e) f0 f1 f3 f4 f5⟩
  self := fun A i s Q E st h => wpAny_pyIter_valiter st h
def iValsX (td : TE) : TI := fun σ H R => td σ H fun x H1 => ∃ d o es ep yvs, x = .ref d ∧ H1 d = some (dictO o d) ∧ (d == sysModules) = false ∧ o.ExactDict ∧ o.data = .dict es ep ∧ Vals yvs (es.toList.map (·.val)) ∧ R (ItvX d o yvs) H1
theorem pi_valsX {td : TE} {apos cpos : Pos} (he : PE X e td) (hbase : attributeBase e "values" X.env (eval e X.env) = eval e X.env) (hline : (apos.endLine == cpos.line) = true) : PI X tg (.Call (.Attribute e "values" apos) [] [] cpos) (iValsX td) := by
  refine ⟨fun pins s σ H R I h => ?_⟩
  refine wpAny_Call_method (T := "dict") (id := "dict.values") hbase rfl hline PySem.F.plainAttrs_dict PySem.F.slot_dict_values PySem.F.type_dict_values (thn (he.run pins s σ H _ I h) fun u s1 ⟨x, H1, I1, rx, d, o, es, ep, yvs, ex, hd, hs, hex, hdt, hv, q⟩ => ?_)
  subst ex
  obtain rfl : u = Value.ref d := rx
  have hg := Inv.dictAt I1 hd
  have hm : s1.heap.DictRaw d es ep := ⟨o, hg, hex, hdt⟩
  refine ⟨⟨o, hg, hex.1⟩, fun a ea => ?_, ?_⟩
  · cases ea; exact ⟨o, hg, hex.2.1⟩
  have I2 : L2.Inv X pins σ H1 { s1 with heap := s1.heap.push { cls := .type "dict_values", data := .fields #[.ref d] } } := I1.kept (t' := s1.toks) fun b ob q => Heap.get?_push_of_some _ q
  have fin : wpAny (model X.prog X.w) X.A (pyIter (.ref s1.heap.objs.size)) (PIE X pins σ tg R) X.xe { s1 with heap := s1.heap.push { cls := .type "dict_values", data := .fields #[.ref d] } } := by
    refine wpAny_pyIter_values_raw (d := d) ⟨_, Heap.get?_push_size _ rfl, rfl, rfl⟩ (hm.push _) (pi_one (tk := s1.toks) I2 _ (turn_valsX _ hex hdt hv) ⟨_, Heap.get?_push_size _ rfl, rfl, rfl⟩ q)
  show wpAny _ _ (callWith cpos (.builtin "dict.values") [.ref d] [] []) _ X.xe s1
  exact method_meetsIn PySem.F.slot_dict_values PySem.F.entry_dict_values rfl (PySem.evalArgs_none ⟨rfl, ⟨o, hg, hex.1⟩, PySem.F.args_dict_values_1 _, _, meets_dict_values_raw d hs, ⟨es, ep, hm⟩, fin⟩)
theorem itv_rep {w : World} {B F : Hp} {d : Addr} {o : Obj} {yvs : List V} {vs : List D} (hx : B d = some (dictO o d)) (r : Reps w F yvs vs) : ItRep w B F (ItvX d o yvs) vs where
  go := fun i v H' hd s => by
    obtain ⟨y, hv, _⟩ := r.get hd
    exact ⟨s _ _ hx, (List.getElem?_eq_some_iff.mp hv).1⟩
  yld := fun i v x H' H'' hd s y => by
    obtain ⟨e, y⟩ := y
    subst e
    refine ⟨Same.refl _, fun F' s1 s2 => ⟨F', Same.refl _, s2, fun a h => .inl h, ?_⟩⟩
    obtain ⟨z, hv, rv⟩ := r.get hd
    rw [hv] at y; cases y
    exact rv.mono s1
  stop := fun H' s => ⟨s _ _ hx, by rw [r.length]; exact Nat.le_refl _⟩
end

/-! ### readings of what is walked -/
section
variable (w : World) (G : Str → Option (Nat × Ctr)) (F0 H0 : Hp)
/-- as tB, but what is read is shared then -/
def tF (ex : Ex) : TE := fun σ H Q => ∃ F env P, EnvOk w F0 H0 F H env σ ∧ (∀ i, ex = .var i → ∀ r, env[i]? = some (some r) → r.1 = false) ∧ bor ex (wE G EF ex) env P ∧
  ∀ d e', P d e' → ∀ v F' H', Xt F H F' H' σ → Rep w F' v d → EnvOk w F0 H0 F' H' e' σ → Q v H'
def tItF (it : Vi.Itx) : TI := fun σ H R => ∃ F env P, EnvOk w F0 H0 F H env σ ∧ (∀ i ∈ itFz it, ∀ r, env[i]? = some (some r) → r.1 = false) ∧ wI G EF it env P ∧
  ∀ items e', P items e' → ∀ J F' H', Xt F H F' H' σ → ItRep w F' F' J items → EnvOk w F0 H0 F' H' e' σ → R J H'
end
section
variable {X : Cx} {N : List Str} {G : Str → Option (Nat × Ctr)} {k : Nat} {sc : Scope} {F0 H0 : Hp} {e a b c tg : Expr} {pos : Pos}
theorem sf_of {ex : Ex} (h : PE X e (tE X.w G F0 H0 ex)) (hv : isVar ex = false) : PE X e (tF X.w G F0 H0 ex) := by
  refine h.imp fun σ H Q q => ?_
  obtain ⟨F, env, P, ok, _, hw, fin⟩ := q
  refine ⟨F, env, fun r e => P r.2 e, ok, ?_, fun r e' h v F' H' xt rp ok' => ?_⟩
  · cases ex <;> first | exact hw | cases hv
  · obtain ⟨F2, xt2, rp2, ok2⟩ := share ok' rp ok.same ok.refs xt
    exact fin _ _ h v F2 H' xt2 rp2 ok2
theorem sf_var {i : Nat} {x : Str} (C : Cok X N G k sc) (hN : N[i]? = some x) (hv : Vis sc x) (hd : (x == ("__debug__" : Str)) = false) (hcd : (x == ("__classdict__" : Str)) = false) : PE X (.Name x pos) (tF X.w G F0 H0 (.var i)) := by
  refine (pe_var (i := i) (by rw [C.nm]; exact hN) (by rw [C.scp]; exact hv) hd hcd).imp fun σ H Q h => ?_
  obtain ⟨F, env, P, ok, hf, hw, fin⟩ := h
  simp only [bor] at hw
  split at hw
  · rename_i r er
    obtain ⟨v, e1, rp⟩ := ok.slot i _ er
    have h0 := hf i rfl r er
    unfold RepR at rp
    rw [if_neg (by rw [h0]; exact Bool.false_ne_true)] at rp
    exact ⟨v, e1, fin _ _ hw v F H .refl rp ok⟩
  · exact hw.elim
section
variable {E : XD → VE → Prop} {x y : Ex} {env : VE} {Q : List D → VE → Prop}
theorem wI_seq (h : wI G E (.seq x) env Q) : bor x (wE G E x) env fun dx e1 => (match dx with | .lst ds => Q ds e1 | .tup ds => Q ds e1 | _ => False) := h
theorem wI_vals (h : wI G E (.vals x) env Q) : bor x (wE G E x) env fun dx e1 => (match dx with | .dct ks vs => Q vs e1 | _ => False) := h
theorem wI_rng1 (h : wI G E (.rng1 x) env Q) : bor x (wE G E x) env fun dx e1 => (match dx with
    | .int j => -(2 ^ 62) ≤ j ∧ j < 2 ^ 62 ∧ Q ((List.range j.toNat).map fun (k : Nat) => D.int (k : Int)) e1
    | _ => False) := h
theorem wI_rng2 (h : wI G E (.rng2 x y) env Q) : bor x (wE G E x) env fun dx e1 => bor y (wE G E y) e1 fun dy e2 => (match dx, dy with
    | .int i, .int j => (-(2 ^ 62) ≤ i ∧ i < 2 ^ 62 ∧ -(2 ^ 62) ≤ j ∧ j < 2 ^ 62) ∧ Q ((List.range (j - i).toNat).map fun (k : Nat) => D.int (i + (k : Int))) e2
    | _, _ => False) := h
end
theorem si_seq {x : Ex} (ha : PE X a (tB X.w G F0 H0 x)) : PI X tg a (tIt X.w G F0 H0 (.seq x)) := by
  refine (pi_seqX ha).imp fun σ H R ⟨F, env, P, ok, hw, fin⟩ => ⟨F, env, _, ok, wI_seq hw, fun dx e1 h1 v F1 H1 xt1 rp1 ok1 => ?_⟩
  cases dx <;> first | exact False.elim h1 | skip
  · obtain ⟨p, xs, rfl, _, e1, r1⟩ := rp1.tup ok1.sub
    exact ⟨p, rfl, .inr ⟨⟨xs, e1⟩, fin _ _ h1 _ F1 H1 xt1 (itt_rep e1 r1) ok1⟩⟩
  · obtain ⟨p, xs, rfl, e1, r1⟩ := rp1.lst ok1.sub
    exact ⟨p, rfl, .inl ⟨⟨xs, e1⟩, fin _ _ h1 _ F1 H1 xt1 (itl_rep e1 r1) ok1⟩⟩
theorem sif_seq {x : Ex} (ha : PE X a (tF X.w G F0 H0 x)) (hx : ∀ i, x = .var i → i ∈ itFz (.seq x)) : PI X tg a (tItF X.w G F0 H0 (.seq x)) := by
  refine (pi_seqX ha).imp fun σ H R ⟨F, env, P, ok, hf, hw, fin⟩ => ⟨F, env, _, ok, fun i e r er => hf i (hx i e) r er, wI_seq hw, fun dx e1 h1 v F1 H1 xt1 rp1 ok1 => ?_⟩
  cases dx <;> first | exact False.elim h1 | skip
  · cases rp1 with
    | tup e1 r1 => exact ⟨_, rfl, .inr ⟨⟨_, ok1.sub _ _ e1⟩, fin _ _ h1 _ F1 H1 xt1 (itt_rep e1 r1) ok1⟩⟩
  · cases rp1 with
    | lst e1 r1 => exact ⟨_, rfl, .inl ⟨⟨_, Rd.mono ok1.sub e1⟩, fin _ _ h1 _ F1 H1 xt1 (itl_rep e1 r1) ok1⟩⟩
theorem si_vals {x : Ex} {apos cpos : Pos} (ha : PE X a (tB X.w G F0 H0 x)) (hbase : attributeBase a "values" X.env (eval a X.env) = eval a X.env) (hline : (apos.endLine == cpos.line) = true) : PI X tg (.Call (.Attribute a "values" apos) [] [] cpos) (tIt X.w G F0 H0 (.vals x)) := by
  refine (pi_valsX ha hbase hline).imp fun σ H R ⟨F, env, P, ok, hw, fin⟩ => ⟨F, env, _, ok, wI_vals hw, fun dx e1 h1 v F1 H1 xt1 rp1 ok1 => ?_⟩
  cases dx <;> first | exact False.elim h1 | skip
  obtain ⟨p, rfl, o, yks, yvs, e1, hs, r1, r2, di⟩ := rp1.dct ok1.sub
  obtain ⟨es, ep, d1, d2⟩ := di.dat
  exact ⟨p, o, es, ep, yvs, rfl, e1, hs, di.ex, d1, ents_vals d2, fin _ _ h1 _ F1 H1 xt1 (itv_rep e1 r2) ok1⟩
theorem sif_vals {x : Ex} {apos cpos : Pos} (ha : PE X a (tF X.w G F0 H0 x)) (hx : ∀ i, x = .var i → i ∈ itFz (.vals x)) (hbase : attributeBase a "values" X.env (eval a X.env) = eval a X.env) (hline : (apos.endLine == cpos.line) = true) : PI X tg (.Call (.Attribute a "values" apos) [] [] cpos) (tItF X.w G F0 H0 (.vals x)) := by
  refine (pi_valsX ha hbase hline).imp fun σ H R ⟨F, env, P, ok, hf, hw, fin⟩ => ⟨F, env, _, ok, fun i e r er => hf i (hx i e) r er, wI_vals hw, fun dx e1 h1 v F1 H1 xt1 rp1 ok1 => ?_⟩
  cases dx <;> first | exact False.elim h1 | skip
  cases rp1 with
  | dct e1 hs r1 r2 di =>
    obtain ⟨es, ep, d1, d2⟩ := di.dat
    exact ⟨_, _, es, ep, _, rfl, ok1.sub _ _ e1, hs, di.ex, d1, ents_vals d2, fin _ _ h1 _ F1 H1 xt1 (itv_rep e1 r2) ok1⟩
theorem map0 (n : Nat) : ((List.range n).map fun (k : Nat) => D.int (k : Int)) = (List.range n).map fun (k : Nat) => D.int (0 + (k : Int)) := by
  refine List.map_congr_left fun k _ => ?_
  rw [Int.zero_add]
theorem si_rng1 {x : Ex} {pp : Pos} (C : Cok X N G k sc) (hg : sc.names.lookup ("range" : Str) = some .globalImplicit) (ha : PE X a (tB X.w G F0 H0 x)) (hs : NoStar a) : PI X tg (.Call (.Name ("range" : Str) pp) [a] [] pos) (tIt X.w G F0 H0 (.rng1 x)) := by
  refine (pi_range1 (by show X.env.scope.names.lookup _ = _; rw [C.scp]; exact hg) (C.free _ (by simp [bnames])) (sa_bor ha hs) (hs [] X.env)).imp fun σ H R ⟨F, env, P, ok, hw, fin⟩ => one ok (wI_rng1 hw) fun dx e2 v F2 H2 h xt ok2 rx => ?_
  cases dx <;> first | exact False.elim h | skip
  cases rx.int
  obtain ⟨h1, h2, h⟩ := h
  rw [map0] at h
  exact ⟨_, rfl, h1, h2, fin _ _ h _ F2 H2 xt itr_rep ok2⟩
theorem sif_rng1 {x : Ex} {pp : Pos} (C : Cok X N G k sc) (hg : sc.names.lookup ("range" : Str) = some .globalImplicit) (ha : PE X a (tB X.w G F0 H0 x)) (hs : NoStar a) : PI X tg (.Call (.Name ("range" : Str) pp) [a] [] pos) (tItF X.w G F0 H0 (.rng1 x)) := by
  refine (pi_range1 (by show X.env.scope.names.lookup _ = _; rw [C.scp]; exact hg) (C.free _ (by simp [bnames])) (sa_bor ha hs) (hs [] X.env)).imp fun σ H R ⟨F, env, P, ok, hf, hw, fin⟩ => one ok (wI_rng1 hw) fun dx e2 v F2 H2 h xt ok2 rx => ?_
  cases dx <;> first | exact False.elim h | skip
  cases rx.int
  obtain ⟨h1, h2, h⟩ := h
  rw [map0] at h
  exact ⟨_, rfl, h1, h2, fin _ _ h _ F2 H2 xt itr_rep ok2⟩
theorem si_rng2 {x y : Ex} {pp : Pos} (C : Cok X N G k sc) (hg : sc.names.lookup ("range" : Str) = some .globalImplicit) (ha : PE X a (tB X.w G F0 H0 x)) (hb : PE X b (tB X.w G F0 H0 y)) (hs : NoStar a) (hs2 : NoStar b) : PI X tg (.Call (.Name ("range" : Str) pp) [a, b] [] pos) (tIt X.w G F0 H0 (.rng2 x y)) := by
  refine (pi_range2 (by show X.env.scope.names.lookup _ = _; rw [C.scp]; exact hg) (C.free _ (by simp [bnames])) (sa_bor2 ha hb hs hs2) (by rw [hs [b], hs2 []]; rfl) (hs2 [] X.env)).imp fun σ H R ⟨F, env, P, ok, hw, fin⟩ => two ok (wI_rng2 hw) fun dx dy e2 v u F2 H2 h xt ok2 rx ry => ?_
  cases dx <;> cases dy <;> first | exact False.elim h | skip
  cases rx.int; cases ry.int
  exact ⟨_, _, rfl, h.1, fin _ _ h.2 _ F2 H2 xt itr_rep ok2⟩
theorem sif_rng2 {x y : Ex} {pp : Pos} (C : Cok X N G k sc) (hg : sc.names.lookup ("range" : Str) = some .globalImplicit) (ha : PE X a (tB X.w G F0 H0 x)) (hb : PE X b (tB X.w G F0 H0 y)) (hs : NoStar a) (hs2 : NoStar b) : PI X tg (.Call (.Name ("range" : Str) pp) [a, b] [] pos) (tItF X.w G F0 H0 (.rng2 x y)) := by
  refine (pi_range2 (by show X.env.scope.names.lookup _ = _; rw [C.scp]; exact hg) (C.free _ (by simp [bnames])) (sa_bor2 ha hb hs hs2) (by rw [hs [b], hs2 []]; rfl) (hs2 [] X.env)).imp fun σ H R ⟨F, env, P, ok, hf, hw, fin⟩ => two ok (wI_rng2 hw) fun dx dy e2 v u F2 H2 h xt ok2 rx ry => ?_
  cases dx <;> cases dy <;> first | exact False.elim h | skip
  cases rx.int; cases ry.int
  exact ⟨_, _, rfl, h.1, fin _ _ h.2 _ F2 H2 xt itr_rep ok2⟩

/-! ### targets -/
/-- what a target leaves -/
structure Left (w : World) (F0 H0 F H : Hp) (t : Tg) (σ : L2.St) (e' : VE) (σ' : L2.St) : Prop where
  ok : EnvOk w F0 H0 F H e' σ'
  wp : ∀ vs : List Nat, (∀ i ∈ t.slots, i ∈ vs) → L2.wipe σ' vs = L2.wipe σ vs
  rf : ∀ (i : Nat) (a : Addr), σ'[i]? = some (some (.ref a)) → (∃ j : Nat, σ[j]? = some (some (.ref a))) ∨ F a ≠ none
/-- a target's reading and what it does to the environment -/
structure TgOk (X : Cx) (F0 H0 : Hp) (tg : Expr) (t : Tg) (g : TG) : Prop where
  pg : PG X tg g
  go : ∀ {F H : Hp} {env : VE} {σ : L2.St} {v : V} {d : D} {P : VE → Prop} {Q : L2.St → Hp → Prop}, EnvOk X.w F0 H0 F H env σ → Rep X.w F v d → bindT t d env P → (∀ e' σ', P e' → Left X.w F0 H0 F H t σ e' σ' → Q σ' H) → g v σ H Q
theorem wipe_out {i : Nat} {v : Option V} : ∀ {us : List Nat} {τ : L2.St}, i ∉ us → L2.wipe (τ.set i v) us = (L2.wipe τ us).set i v
  | [], _, _ => rfl
  | u :: us, τ, hu => by
    simp only [List.mem_cons, not_or] at hu
    show (L2.wipe (τ.set i v) us).set u none = ((L2.wipe τ us).set u none).set i v
    rw [wipe_out hu.2, List.set_comm _ _ (Ne.symm hu.1)]
theorem wipe_set {σ : L2.St} {i : Nat} {v : Option V} : ∀ {vs : List Nat}, i ∈ vs → L2.wipe (σ.set i v) vs = L2.wipe σ vs
  | [], h => by cases h
  | j :: vs, h => by
    show (L2.wipe (σ.set i v) vs).set j none = (L2.wipe σ vs).set j none
    by_cases hm : i ∈ vs
    · rw [wipe_set hm]
    · rcases List.mem_cons.mp h with rfl | h
      · rw [wipe_out hm, List.set_set]
      · exact absurd h hm
theorem wipe_idem {σ : L2.St} : ∀ {us vs : List Nat}, (∀ i ∈ us, i ∈ vs) → L2.wipe (L2.wipe σ us) vs = L2.wipe σ vs
  | [], _, _ => rfl
  | u :: us, vs, h => by
    show L2.wipe ((L2.wipe σ us).set u none) vs = _
    rw [wipe_set (h u List.mem_cons_self)]
    exact wipe_idem fun i hi => h i (List.mem_cons_of_mem _ hi)
theorem Rep.refF {w : World} {F : Hp} {a : Addr} {d : D} (h : Rep w F (.ref a) d) : F a ≠ none := by
  cases h with
  | tup e _ => rw [e]; exact fun z => nomatch z
  | lst e _ => exact Rd.ne e
  | dct e _ _ _ _ => rw [e]; exact fun z => nomatch z
theorem set_ref {σ : L2.St} {i j : Nat} {v : V} {a : Addr} (h : (σ.set i (some v))[j]? = some (some (.ref a))) : v = .ref a ∨ σ[j]? = some (some (.ref a)) := by
  by_cases e : i = j
  · subst e
    by_cases hi : i < σ.length
    · rw [List.getElem?_set_self hi] at h; cases h; exact .inl rfl
    · rw [List.getElem?_eq_none (by rw [List.length_set]; omega)] at h; cases h
  · rw [List.getElem?_set_ne e] at h; exact .inr h
theorem tg_nm {i : Nat} {x : Str} (hnm : X.N = N) (hnd : N.Nodup) (hN : N[i]? = some x) (hx : Loc X.env.scope x) (hf : X.fn x = true ∨ X.env.scope.names.lookup x = some .local) : TgOk X F0 H0 (.Name x pos) (.nm i) (gName i) where
  pg := pg_name (by rw [hnm]; exact hnd) (by rw [hnm]; exact hN) hx hf
  go := fun {F H env σ v d P Q} ok r h f => f _ _ h ⟨ok.setF r, fun vs hv => wipe_set (hv i List.mem_cons_self), fun j a e => by
    rcases set_ref e with z | z
    · subst z; exact .inr r.refF
    · exact .inl ⟨j, z⟩⟩
def gNames : List Nat → TGs
  | [] => gNil
  | i :: is => gCons (gName i) (gNames is)
/-- several names as targets -/
structure NmsOk (X : Cx) (N : List Str) (is : List Nat) (es : List Expr) : Prop where
  pg : PGs X es (gNames is)
  len : (assignEach es X.env).length = is.length
  st : (assignEach es X.env).findIdx? (·.1) = none
theorem nms_nil : NmsOk X N [] [] := ⟨pgs_nil, rfl, rfl⟩
theorem nms_cons {i : Nat} {x : Str} {is : List Nat} {es : List Expr} (hnm : X.N = N) (hnd : N.Nodup) (hN : N[i]? = some x) (hx : Loc X.env.scope x) (hf : X.fn x = true ∨ X.env.scope.names.lookup x = some .local) (h : NmsOk X N is es) : NmsOk X N (i :: is) (.Name x pos :: es) where
  pg := pgs_cons (pg_name (by rw [hnm]; exact hnd) (by rw [hnm]; exact hN) hx hf) h.pg rfl
  len := by
    show (assignEach es X.env).length + 1 = is.length + 1
    rw [h.len]
  st := by
    have e : assignEach (.Name x pos :: es) X.env = (false, assign (.Name x pos) X.env) :: assignEach es X.env := rfl
    rw [e, List.findIdx?_cons, h.st]; rfl
theorem gNames_go {w : World} {F H : Hp} {t : Tg} : ∀ {is : List Nat} {ds : List D} {vs : List V} {env : VE} {σ : L2.St} {P : VE → Prop} {Q : L2.St → Hp → Prop}, EnvOk w F0 H0 F H env σ → Reps w F vs ds → bindTs is ds env P → (∀ e' σ', P e' → Left w F0 H0 F H (.tp is) σ e' σ' → Q σ' H) → gNames is vs σ H Q
  | [], [], _, _, _, _, _, ok, .nil, h, f => ⟨rfl, f _ _ h ⟨ok, fun _ _ => rfl, fun j a e => .inl ⟨j, e⟩⟩⟩
  | [], _ :: _, _, _, _, _, _, _, _, h, _ => False.elim h
  | _ :: _, [], _, _, _, _, _, _, _, h, _ => False.elim h
  | i :: is, d :: ds, _, env, σ, P, Q, ok, .cons r rs, h, f => by
    refine ⟨_, _, rfl, ?_⟩
    refine gNames_go (t := t) (ok.setF r) rs h fun e' σ' hp l => f e' σ' hp ⟨l.ok, fun vs hv => ?_, fun j a e => ?_⟩
    · rw [l.wp vs fun i hi => hv i (List.mem_cons_of_mem _ hi), wipe_set (hv i List.mem_cons_self)]
    · rcases l.rf j a e with ⟨j', z⟩ | z
      · rcases set_ref z with z | z
        · subst z; exact .inr r.refF
        · exact .inl ⟨j', z⟩
      · exact .inr z
theorem tg_tp {is : List Nat} {es : List Expr} {kk : Nat} (hc : X.calm = true) (h : NmsOk X N is es) : TgOk X F0 H0 (.Tuple es kk pos) (.tp is) (gTup X.K is.length (gNames is)) where
  pg := pg_tup hc h.pg h.len h.st
  go := fun {F H env σ v d P Q} ok r hb f => by
    cases d <;> first | exact False.elim hb | skip
    cases r with
    | tup e rs =>
      rename_i ds p xs
      have hb : bindTs is ds env P := hb
      have hl : is.length = ds.length := by
        have : ∀ {is : List Nat} {ds : List D} {env : VE}, bindTs is ds env P → is.length = ds.length := by
          intro is
          induction is with
          | nil => intro ds env h; cases ds with
            | nil => rfl
            | cons _ _ => exact False.elim h
          | cons i is ih => intro ds env h; cases ds with
            | nil => exact False.elim h
            | cons d ds => simp [ih h]
        exact this hb
      exact ⟨p, xs, rfl, .of (ok.sub _ _ e), by rw [rs.length, hl], gNames_go (t := .tp is) ok rs hb f⟩

/-! ### list comprehensions -/
def tTxs (w : World) (G : Str → Option (Nat × Ctr)) (F0 H0 : Hp) (t : Txs) : TT := fun σ H Q => ∃ F env P, EnvOk w F0 H0 F H env σ ∧ wTxs G EF t env P ∧
  ∀ b e', P b e' → ∀ F' H', Xt F H F' H' σ → EnvOk w F0 H0 F' H' e' σ → Q b H'
theorem PTs.imp {X : Cx} {es : List Expr} {t t' : TT} (h : PTs X es t) (f : ∀ σ H Q, t' σ H Q → t σ H Q) : PTs X es t' := ⟨fun pins s σ H Q I q => h.run pins s σ H Q I (f σ H Q q)⟩
theorem sts_nil : PTs X [] (tTxs X.w G F0 H0 .none) := PTs.imp pts_nil fun σ H Q ⟨F, env, P, ok, hw, fin⟩ => fin _ _ hw F H .refl ok
theorem sts_one {t : Tx} (h : PT X a (tTx X.w G F0 H0 t)) : PTs X [a] (tTxs X.w G F0 H0 (.one t)) := PTs.imp (pts_one h) fun σ H Q ⟨F, env, P, ok, hw, fin⟩ => ⟨F, env, P, ok, hw, fin⟩
/-- what stands between two turns of a comprehension -/
structure LcW (w : World) (F0 H0 F1 H1 : Hp) (e1 : VE) (σ : L2.St) (Dd : Addr) (acc : List D) (F H : Hp) : Prop where
  hD : ∃ xs, H Dd = some (.lst xs) ∧ Reps w F xs acc
  nF : F Dd = none
  xt : Xt F1 H1 F H σ
  ok : EnvOk w F0 H0 F H e1 σ
  st : ∀ a, F a ≠ none → F1 a ≠ none ∨ H1 a = none
theorem lc_read {w : World} {J : L2.It} {items : List D} {F1 H1 : Hp} {e1 : VE} {σ : L2.St} {g : TG} {tt : TT} {te : TE} {t : Tg} {cond : Txs} {elt : Ex} {I : Nat → List D → Prop} {Q : Hp → Prop} {Dd : Addr}
    (jr : ItRep w H1 F1 J items) (ok1 : EnvOk w F0 H0 F1 H1 e1 σ) (hD : H1 Dd = none)
    (tgo : ∀ {F H : Hp} {env : VE} {σ : L2.St} {v : V} {d : D} {P : VE → Prop} {Q : L2.St → Hp → Prop}, EnvOk w F0 H0 F H env σ → Rep w F v d → bindT t d env P → (∀ e' σ', P e' → Left w F0 H0 F H t σ e' σ' → Q σ' H) → g v σ H Q)
    (tti : ∀ σ H Q, tTxs w G F0 H0 cond σ H Q → tt σ H Q) (tei : ∀ σ H Q, tE w G F0 H0 elt σ H Q → te σ H Q)
    (I0 : I 0 []) (Is : ∀ i d acc, items[i]? = some d → I i acc → bindT t d (wipeE e1 t.slots) fun e2 => wTxs G EF cond e2 fun c e3 => e3 = e2 ∧
          if c = true then wE G EF elt e3 fun r e4 => e4 = e2 ∧ acc.length < sizeLine ∧ I (i + 1) (acc ++ [r.2]) else I (i + 1) acc)
    (Ie : ∀ acc F H, I items.length acc → LcW w F0 H0 F1 H1 e1 σ Dd acc F H → Q H) :
    ∃ W : Nat → Nat → Hp → Prop, (∃ m, W 0 m (upd H1 Dd (.lst []))) ∧ ∀ i m H, W i m H →
      (J.stop i H ∧ Q H) ∨ (J.go i H ∧ ∃ Nx : Hp → Prop, (∀ H', Nx H' → ∃ m', m' < m ∧ W (i + 1) m' H') ∧ ∀ x H', J.yld i H x H' → g x (L2.wipe σ t.slots) H' fun σ2 H2 => L2.wipe σ2 t.slots = L2.wipe σ t.slots ∧ tt σ2 H2 fun b H3 =>
        if b = true then te σ2 H3 fun y H4 => ∃ acc, H4 Dd = some (.lst acc) ∧ acc.length < sizeLine ∧ Nx (upd H4 Dd (.lst (acc ++ [y]))) else Nx H3) := by
  have sD : ∀ o, Same H1 (upd H1 Dd o) := fun o => same_new hD
  have nD : ∀ i : Nat, σ[i]? ≠ some (some (.ref Dd)) := fun i e => ok1.refs i _ e hD
  have hD0 : H0 Dd = none := Same.free ok1.same hD
  refine ⟨fun i m H => m = items.length - i ∧ i ≤ items.length ∧ ∃ F acc, I i acc ∧ LcW w F0 H0 F1 H1 e1 σ Dd acc F H, ⟨items.length, by simp, Nat.zero_le _, F1, [], I0, ⟨[], upd_same, .nil⟩, ok1.noF hD, .growH (sD _), ok1.growH (sD _), fun a h => .inl h⟩, ?_⟩
  rintro i m H ⟨rfl, hi, F, acc, hI, lw⟩
  have sH : Same H1 H := lw.xt.same
  by_cases hlt : i < items.length
  · refine .inr ⟨jr.go i _ H (List.getElem?_eq_getElem hlt) sH, fun H' => ∃ F acc, I (i + 1) acc ∧ LcW w F0 H0 F1 H1 e1 σ Dd acc F H', fun H' q => ⟨items.length - (i + 1), by omega, rfl, hlt, q⟩, fun x H' hy => ?_⟩
    obtain ⟨s1, hy⟩ := jr.yld i _ x H H' (List.getElem?_eq_getElem hlt) sH hy
    obtain ⟨F', f1, f2, f3, rx⟩ := hy F lw.xt.sub lw.ok.sub
    have okw' : EnvOk w F0 H0 F' H' e1 σ := lw.ok.grow f1 f2 s1 f3
    have nF' : F' Dd = none := by
      cases q : F' Dd with
      | none => rfl
      | some o =>
        obtain ⟨xs, hx, _⟩ := lw.hD
        rcases f3 Dd (by rw [q]; exact fun z => nomatch z) with z | z
        · exact absurd lw.nF z
        · rw [hx] at z; cases z
    have b := Is i _ acc (List.getElem?_eq_getElem hlt) hI
    refine tgo (okw'.wipe t.slots) rx b fun e2 σ2 h2 l2 => ⟨?_, ?_⟩
    · rw [l2.wp t.slots fun i hi => hi]
      exact wipe_idem fun i hi => hi
    have nD2 : ∀ j : Nat, σ2[j]? ≠ some (some (.ref Dd)) := fun j e => by
      rcases l2.rf j _ e with ⟨j', z⟩ | z
      · exact nD j' (wipe_some z).1
      · exact z nF'
    -- from the block's environment back to the one around
    have back : ∀ {F4 H4 : Hp}, Xt F' H' F4 H4 σ2 → EnvOk w F0 H0 F4 H4 e2 σ2 → EnvOk w F0 H0 F4 H4 e1 σ ∧ (∀ a, F4 a ≠ none → F' a ≠ none ∨ H' a = none) := fun {F4 H4} xt ok4 => by
      have fr := Xt.strong l2.ok ok4 xt
      exact ⟨okw'.grow xt.sub ok4.sub xt.same fr, fr⟩
    have tot : ∀ {F4 H4 : Hp}, Xt F' H' F4 H4 σ2 → (∀ a, F4 a ≠ none → F' a ≠ none ∨ H' a = none) → (∀ a, F4 a ≠ none → F1 a ≠ none ∨ H1 a = none) := fun {F4 H4} xt fr a h => by
      rcases fr a h with z | z
      · rcases f3 a z with z | z
        · exact lw.st a z
        · exact .inr (Same.free sH z)
      · exact .inr (Same.free (sH.trans s1) z)
    have xtOf : ∀ {F4 H4 : Hp}, Same F1 F4 → Same H1 H4 → (∀ a, F4 a ≠ none → F1 a ≠ none ∨ H1 a = none) → Xt F1 H1 F4 H4 σ := fun {F4 H4} a b c => ⟨a, b, fun x q1 q2 _ => by
      cases q : F4 x with
      | none => rfl
      | some o =>
        rcases c x (by rw [q]; exact fun z => nomatch z) with z | z
        · exact absurd q1 z
        · exact absurd z q2⟩
    have sF1 : Same F1 F' := lw.xt.sub.trans f1
    refine tti _ _ _ ⟨F', e2, _, l2.ok, h2, fun c e3 ⟨h3, hc⟩ F3 H3 xt3 ok3 => ?_⟩
    subst h3
    obtain ⟨b3, fr3⟩ := back xt3 ok3
    cases c with
    | false =>
      simp only [Bool.false_eq_true, if_false] at hc ⊢
      refine ⟨F3, acc, hc, ?_⟩
      obtain ⟨xs, hx, rxs⟩ := lw.hD
      refine ⟨⟨xs, xt3.same _ _ (s1 _ _ hx), rxs.mono (f1.trans xt3.sub)⟩, ?_, xtOf (sF1.trans xt3.sub) (sH.trans (s1.trans xt3.same)) (tot xt3 fr3), b3, tot xt3 fr3⟩
      exact xt3.fr Dd nF' (Same.ne s1 (by rw [hx]; exact fun z => nomatch z)) nD2
    | true =>
      simp only [if_true] at hc ⊢
      refine tei _ _ _ ⟨F3, e3, _, ok3, hc, fun r e4 ⟨h4, hz, hI'⟩ y F4 H4 xt4 rp4 ok4 => ?_⟩
      subst h4
      obtain ⟨F5, xt5, rp5, ok5⟩ := share ok4 rp4 ok3.same ok3.refs xt4
      have xt35 : Xt F' H' F5 H4 σ2 := xt3.trans xt5
      obtain ⟨b5, fr5⟩ := back xt35 ok5
      obtain ⟨xs, hx, rxs⟩ := lw.hD
      have hx4 : H4 Dd = some (.lst xs) := xt35.same _ _ (s1 _ _ hx)
      have n5 : F5 Dd = none := xt35.fr Dd nF' (Same.ne s1 (by rw [hx]; exact fun z => nomatch z)) nD2
      refine ⟨xs, hx4, by rw [rxs.length]; exact hz, F5, acc ++ [r.2], hI', ⟨_, upd_same, (rxs.mono (f1.trans xt35.sub)).append (.cons rp5 .nil)⟩, n5, xtOf (sF1.trans xt35.sub) ?_ (tot xt35 fr5), b5.updOut n5 hD0 nD, tot xt35 fr5⟩
      exact same_upd2 (sH.trans (s1.trans xt35.same)) hD
  · have e : i = items.length := by omega
    subst e
    exact .inl ⟨jr.stop H sH, Ie acc F H hI lw⟩
/-- what is stored in a block -/
structure Stores (Y : Cx) (scope : Scope) : Prop where
  loc : ∀ x, scope.names.lookup x = some .local → Y.env.scope.names.lookup x = some .local
  cell : ∀ x, scope.names.lookup x = some .cell → Y.env.scope.names.lookup x = some .cell ∧ Y.fn x = true
theorem blk_ok {scope : Scope} {s : Shared} {H : Hp} {Cc : Addr} {cl : List (Str × Addr)} {fp : List Addr} (C : Cok X N G k sc) : Cok (X.blk s H scope (compEnvC scope cl Cc X.env) fp) N G k (relS scope sc) where
  nm := C.nm
  nd := C.nd
  scp := by
    have e : (compEnvC scope cl Cc X.env).scope = relS scope X.env.scope := rfl
    rw [C.scp] at e; exact e
  calm := C.calm
  room := C.room
  free := C.free
  calls := C.calls
theorem blk_st {scope : Scope} {s : Shared} {H : Hp} {Cc : Addr} {cl : List (Str × Addr)} {fp : List Addr} : Stores (X.blk s H scope (compEnvC scope cl Cc X.env) fp) scope where
  loc := fun x h => by
    have e : (compEnvC scope cl Cc X.env).scope = relS scope X.env.scope := rfl
    show (compEnvC scope cl Cc X.env).scope.names.lookup x = _
    rw [e]; exact lookup_relS_keep (fun z => nomatch z) h
  cell := fun x h => by
    have e : (compEnvC scope cl Cc X.env).scope = relS scope X.env.scope := rfl
    refine ⟨?_, by show (scope.names.lookup x == some .cell) = true; rw [h]; rfl⟩
    show (compEnvC scope cl Cc X.env).scope.names.lookup x = _
    rw [e]; exact lookup_relS_keep (fun z => nomatch z) h
theorem lc_imp {t : Tg} {g : TG} {fz : List Nat} {el : Ex} {it : Itx} {cond : Txs} {w : World} {σ : L2.St} {H : Hp} {Q : VK}
    (tgo : ∀ {F H : Hp} {env : VE} {σ : L2.St} {v : V} {d : D} {P : VE → Prop} {Q : L2.St → Hp → Prop}, EnvOk w F0 H0 F H env σ → Rep w F v d → bindT t d env P → (∀ e' σ', P e' → Left w F0 H0 F H t σ e' σ' → Q σ' H) → g v σ H Q)
    (h : tE w G F0 H0 (.lc fz el t it cond) σ H Q) : tLc (tIt w G F0 H0 it) g (tTxs w G F0 H0 cond) (tE w G F0 H0 el) t.slots σ H Q := by
  obtain ⟨F, env, P, ok, hw, fin⟩ := h
  obtain ⟨F', x0, ok0⟩ := ok.frzL (is := fz)
  refine ⟨F', _, _, ok0, hw, fun items e1 ⟨I, I0, Is, Ie⟩ J F1 H1 xt1 jr ok1 Dd hD => ?_⟩
  refine lc_read (G := G) jr ok1 hD tgo (fun _ _ _ h => h) (fun _ _ _ h => h) I0 Is fun acc F2 H2 hI lw => ?_
  obtain ⟨xs, hx, rxs⟩ := lw.hD
  exact fin _ _ (Ie acc hI) (.ref Dd) F2 H2 (x0.trans (xt1.trans lw.xt)) (.own rfl lw.nF (Same.free (x0.same.trans xt1.same) hD) ⟨xs, hx, rxs⟩) lw.ok
/-- what a comprehension's parts must be -/
structure LcOk (X : Cx) (N : List Str) (G : Str → Option (Nat × Ctr)) (k : Nat) (sc : Scope) (F0 H0 : Hp) (scope : Scope) (own : List (Str × Nat)) (tg iter : Expr) (ifs : List Expr) (t : Tg) (it : Itx) (cond : Txs) (g : TG) : Prop where
  C : Cok X N G k sc
  bk : blkC N sc scope own = true
  own : own.map (·.2) = t.slots
  hi : PI X tg iter (tIt X.w G F0 H0 it)
  hg : ∀ Y : Cx, Cok Y N G k (relS scope sc) → Stores Y scope → Y.w = X.w → Y.K = X.K → TgOk Y F0 H0 tg t g
  ht : ∀ Y : Cx, Cok Y N G k (relS scope sc) → Y.w = X.w → PTs Y ifs (tTxs Y.w G F0 H0 cond)
  hs : ∀ x, foldedSetIterable iter X.env x = pure x
theorem LcOk.go {scope : Scope} {own : List (Str × Nat)} {tg iter : Expr} {ifs : List Expr} {t : Tg} {it : Itx} {cond : Txs} {g : TG} (L : LcOk X N G k sc F0 H0 scope own tg iter ifs t it cond g) :
    ∀ {F H : Hp} {env : VE} {σ : L2.St} {v : V} {d : D} {P : VE → Prop} {Q : L2.St → Hp → Prop}, EnvOk X.w F0 H0 F H env σ → Rep X.w F v d → bindT t d env P → (∀ e' σ', P e' → Left X.w F0 H0 F H t σ e' σ' → Q σ' H) → g v σ H Q :=
  (L.hg _ (blk_ok (s := X.s_0) (H := fun _ => none) (Cc := 0) (cl := []) (fp := []) (scope := scope) L.C) blk_st rfl rfl).go
theorem se_lc {own : List (Str × Nat)} {scope : Scope} {elt iter tg : Expr} {ifs : List Expr} {fz : List Nat} {el : Ex} {t : Tg} {it : Itx} {cond : Txs} {g : TG} (L : LcOk X N G k sc F0 H0 scope own tg iter ifs t it cond g)
    (he : ∀ Y : Cx, Cok Y N G k (relS scope sc) → Y.w = X.w → PE Y elt (tE Y.w G F0 H0 el)) : PE X (.ListComp elt [⟨tg, iter, ifs, 0⟩] scope pos) (tE X.w G F0 H0 (.lc fz el t it cond)) := by
  refine (pe_lc (own := own) (g := g) (tt := tTxs X.w G F0 H0 cond) (te := tE X.w G F0 H0 el) L.C.calm (by rw [L.C.nm]; exact L.C.nd) L.hi (blkOk_by (by rw [L.C.nm, L.C.scp]; exact L.bk)) (fun s H Cc cl fp => (L.hg _ (blk_ok L.C) blk_st rfl rfl).pg) (fun s H Cc cl fp => L.ht _ (blk_ok L.C) rfl) (fun s H Cc cl fp => he _ (blk_ok L.C) rfl) L.hs).imp fun σ H Q h => ?_
  rw [L.own]
  exact lc_imp L.go h
end
end Vi
set_option Elab.async false
set_option linter.all false
set_option maxRecDepth 100000
/-! ViJ: dicts that are made. -/
namespace Vi
open PySem PySem.Spec PyProof.Rows L2
def kD : Key → D
  | .inl i => .int i
  | .inr x => .str x
section
variable {X : Cx} {N : List Str} {G : Str → Option (Nat × Ctr)} {k : Nat} {sc : Scope} {F0 H0 : Hp} {e a b c : Expr} {pos : Pos}
/-- a dict of ints and texts is from now on told as it stands -/
theorem toX {pins : List (Addr × Obj)} {σ : L2.St} {H : Hp} {s : Shared} {p : Addr} {kvs : List (Key × V)} (I : L2.Inv X pins σ H s) (h : H p = some (.dK kvs)) :
    ∃ o, (p == sysModules) = false ∧ DictIs X.w o (kvs.map fun q => kV q.1) (kvs.map (·.2)) (kvs.map fun q => kD q.1) ∧ L2.Inv X pins σ (upd H p (dictO o p)) s := by
  obtain ⟨z, hs, vs, rel, dd⟩ := dk_of I.hok h
  have e1 : vs.map (fun p => some p.1) = (kvs.map fun q => kD q.1).map (byMix X.prog X.w).dk := by
    have e2 : ∀ {kvs : List (Key × V)} {vs : List (Key × Value)}, KV kvs vs → vs.map (fun p => some p.1) = (kvs.map fun q => kD q.1).map (byMix X.prog X.w).dk := by
      intro kvs vs h
      induction h with
      | nil => rfl
      | cons h _ ih =>
        rename_i p q _ _ _
        rw [List.map_cons, List.map_cons, List.map_cons, ih, ← h.1]
        congr 1
        cases p.1 <;> rfl
    exact e2 rel
  have e3 : Vals (kvs.map (·.2)) (vs.map (·.2)) := by
    have : ∀ {kvs : List (Key × V)} {vs : List (Key × Value)}, KV kvs vs → Vals (kvs.map (·.2)) (vs.map (·.2)) := by
      intro kvs vs h
      induction h with
      | nil => exact .nil
      | cons h _ ih => exact .cons h.2 ih
    exact this rel
  obtain ⟨o, yks, g1, g2, g3⟩ := (byMix X.prog X.w).new (ks := kvs.map fun q => kD q.1) dd e1 e3 (by decide) (fun a ha => by
    obtain ⟨q, _, rfl⟩ := List.mem_map.mp ha
    cases q.1 <;> rfl) (fun a ha => by
    obtain ⟨q, _, rfl⟩ := List.mem_map.mp ha
    cases q.1 <;> exact ⟨_, rfl, Nat.zero_le 8⟩) (by rw [List.length_map]; exact z)
  have ey : yks = kvs.map fun q => kV q.1 := by
    have : ∀ {ys : List V} {kvs : List (Key × V)}, Reps X.w (fun _ => none) ys (kvs.map fun q => kD q.1) → ys = kvs.map fun q => kV q.1 := by
      intro ys kvs
      induction kvs generalizing ys with
      | nil => intro h; cases h; rfl
      | cons q r ih =>
        intro h
        cases h with
        | cons h1 h2 =>
          rw [List.map_cons, ← ih h2]
          congr 1
          obtain ⟨q1, q2⟩ := q
          cases q1 <;> (cases h1; rfl)
    exact this (g2 _)
  subst ey
  refine ⟨o, hs, g3, ?_⟩
  exact I.write (t' := s.toks) (x := p) (e := p) (by rw [h]; exact True.intro) (.inl rfl) (fun b u _ q => q) ⟨o, g1⟩ (dictO_ok g1)
theorem PE.toX {t : TE} (h : PE X e t) : PE X e (fun σ H Q => t σ H fun v H' => ∃ p kvs, v = .ref p ∧ H' p = some (.dK kvs) ∧ ∀ o, (p == sysModules) = false → DictIs X.w o (kvs.map fun q => kV q.1) (kvs.map (·.2)) (kvs.map fun q => kD q.1) → Q v (upd H' p (dictO o p))) :=
  ⟨fun pins s σ H Q I q => thn (h.run pins s σ H _ I q) fun u s' ⟨v, H', I', r, p, kvs, e, hp, f⟩ => by
    obtain ⟨o, h1, h2, h3⟩ := Vi.toX I' hp
    exact ⟨v, _, h3, r, f o h1 h2⟩⟩
theorem reps_kV {w : World} {F : Hp} : ∀ kvs : List (Key × V), Reps w F (kvs.map fun q => kV q.1) (kvs.map fun q => kD q.1)
  | [] => .nil
  | (.inl i, _) :: r => .cons (.int i) (reps_kV r)
  | (.inr x, _) :: r => .cons (.str x) (reps_kV r)
/-- a made dict as a result -/
theorem Fin.dct {w : World} {Fi Hi F H : Hp} {e2 : VE} {σ : L2.St} {P : R → VE → Prop} {Q : VK} {p : Addr} {kvs : List (Key × V)} {vs : List D} {o : Obj} (f : Fin w F0 H0 Fi Hi F H e2 σ P Q) (h : P (true, .dct (kvs.map fun q => kD q.1) vs) e2)
    (r : Reps w F (kvs.map (·.2)) vs) (hp : H p = none) (hs : (p == sysModules) = false) (di : DictIs w o (kvs.map fun q => kV q.1) (kvs.map (·.2)) (kvs.map fun q => kD q.1)) : Q (.ref p) (upd H p (dictO o p)) :=
  f.fin _ _ h _ F _ (f.xt.trans (.growH (same_new hp))) (.own rfl (f.ok.noF hp) (Same.free f.xt.same hp) ⟨o, _, _, upd_same, hs, reps_kV kvs, r, di⟩) (f.ok.growH (same_new hp))
theorem se_dnew : PE X (.Dict [] [] pos) (tE X.w G F0 H0 .dnew) := by
  refine (PE.toX pe_dnewK).imp fun σ H Q ⟨F, env, P, ok, hw, fin⟩ => fun p hp => ⟨p, [], rfl, upd_same, fun o hs di => ?_⟩
  rw [upd_upd]
  exact Fin.dct (kvs := []) ⟨ok, .refl, fin⟩ hw .nil hp hs di

theorem dputV_cons {α : Type} {a k : D} {ks : List D} {w v : α} {vs : List α} : dputV (a :: ks) (w :: vs) k v = if nk a = nk k then v :: vs else w :: dputV ks vs k v := rfl
theorem kD_nk (a b : Key) : nk (kD a) = nk (kD b) ↔ a = b := by
  cases a <;> cases b <;> simp [kD, nk]
theorem kD_kd (a : Key) : kd (kD a) = 0 := by cases a <;> rfl
theorem put_rel {w : World} {F : Hp} {kk : Key} {z : V} {v : D} (rz : Rep w F z v) : ∀ {kvs : List (Key × V)} {vs : List D}, Reps w F (kvs.map (·.2)) vs → (kvs.map (·.1)).Nodup →
    (putK kvs kk z).map (fun q => kD q.1) = dputK (kvs.map fun q => kD q.1) (kD kk) ∧ Reps w F ((putK kvs kk z).map (·.2)) (dputV (kvs.map fun q => kD q.1) vs (kD kk) v) ∧ ((putK kvs kk z).map (·.1)).Nodup := by
  have main : ∀ {kvs : List (Key × V)} {vs : List D}, Reps w F (kvs.map (·.2)) vs → (kvs.map (·.1)).Nodup →
      (kvs.any (fun kv => decide (kv.1 = kk)) = (kvs.map fun q => kD q.1).any (fun a => decide (nk a = nk (kD kk)))) ∧
      (kvs.any (fun kv => decide (kv.1 = kk)) = true → Reps w F ((kvs.map fun kv => if kv.1 = kk then (kv.1, z) else kv).map (·.2)) (dputV (kvs.map fun q => kD q.1) vs (kD kk) v)) ∧
      (kvs.any (fun kv => decide (kv.1 = kk)) = false → dputV (kvs.map fun q => kD q.1) vs (kD kk) v = vs ++ [v]) := by
    intro kvs
    induction kvs with
    | nil => intro vs r _; cases r; exact ⟨rfl, fun h => (by simp at h), fun _ => rfl⟩
    | cons p kvs ih =>
      intro vs r nd
      rw [List.map_cons, List.nodup_cons] at nd
      cases r with
      | cons r1 r2 =>
        obtain ⟨i1, i2, i3⟩ := ih r2 nd.2
        by_cases e : p.1 = kk
        · have zn : nk (kD p.1) = nk (kD kk) := (kD_nk _ _).mpr e
          refine ⟨by rw [List.any_cons, List.map_cons, List.any_cons, i1, decide_eq_true e, decide_eq_true zn], fun _ => ?_, fun h => ?_⟩
          · have rest : (kvs.map fun kv => if kv.1 = kk then (kv.1, z) else kv) = kvs := by
              have h1 : ∀ kv ∈ kvs, (if kv.1 = kk then (kv.1, z) else kv) = kv := fun kv hm => by
                rw [if_neg fun t => nd.1 (List.mem_map.mpr ⟨kv, hm, t.trans e.symm⟩)]
              rw [List.map_congr_left h1, List.map_id']
            simp only [List.map_cons]
            rw [dputV_cons, if_pos zn, if_pos e, rest]
            exact .cons rz r2
          · simp [e] at h
        · have zn : ¬ nk (kD p.1) = nk (kD kk) := fun t => e ((kD_nk _ _).mp t)
          refine ⟨by rw [List.any_cons, List.map_cons, List.any_cons, i1, decide_eq_false e, decide_eq_false zn], fun h => ?_, fun h => ?_⟩
          · have h' : kvs.any (fun kv => decide (kv.1 = kk)) = true := by simpa [e] using h
            simp only [List.map_cons]
            rw [dputV_cons, if_neg zn, if_neg e]
            exact .cons r1 (i2 h')
          · have h' : kvs.any (fun kv => decide (kv.1 = kk)) = false := by simpa [e] using h
            simp only [List.map_cons]
            rw [dputV_cons, if_neg zn, i3 h']; rfl
  intro kvs vs r nd
  obtain ⟨m1, m2, m3⟩ := main r nd
  unfold putK dputK
  rw [← m1]
  cases hc : kvs.any (fun kv => decide (kv.1 = kk)) with
  | true =>
    rw [if_pos rfl, if_pos rfl]
    refine ⟨?_, m2 hc, ?_⟩
    · rw [List.map_map]
      refine List.map_congr_left fun p _ => ?_
      show kD (if p.1 = kk then (p.1, z) else p).1 = kD p.1
      split <;> rfl
    · rw [List.map_map]
      have e : kvs.map ((fun x => x.1) ∘ fun kv => if kv.1 = kk then (kv.1, z) else kv) = kvs.map (·.1) := List.map_congr_left fun p _ => by
        show (if p.1 = kk then (p.1, z) else p).1 = p.1
        split <;> rfl
      rw [e]; exact nd
  | false =>
    rw [if_neg Bool.false_ne_true, if_neg Bool.false_ne_true, m3 hc]
    refine ⟨by rw [List.map_append]; rfl, ?_, ?_⟩
    · rw [List.map_append]; exact r.append (.cons rz .nil)
    · rw [List.map_append, List.nodup_append]
      refine ⟨nd, by simp, fun a ha b hb e => ?_⟩
      have hb' : b = kk := by simpa using hb
      subst hb' e
      obtain ⟨q, hq, e⟩ := List.mem_map.mp ha
      have : kvs.any (fun kv => decide (kv.1 = a)) = true := by
        rw [List.any_eq_true]; exact ⟨q, hq, by simpa using e⟩
      rw [this] at hc; cases hc
theorem kD_of {d : D} (h : kd d = 0) : ∃ kk, d = kD kk := by
  cases d <;> simp [kd] at h
  · exact ⟨.inl _, rfl⟩
  · exact ⟨.inr _, rfl⟩
theorem rep_kD {w : World} {F : Hp} {v : V} {kk : Key} (h : Rep w F v (kD kk)) : v = kV kk := by
  cases kk <;> (cases h; rfl)
/-- {k: v} -/
theorem se_dnew1 {x y : Ex} (ha : PE X a (tE X.w G F0 H0 x)) (hb : PE X b (tE X.w G F0 H0 y)) : PE X (.Dict [some a] [b] pos) (tE X.w G F0 H0 (.dnew1 x y)) := by
  refine (PE.toX (pe_disp (pps_cons ha hb pps_nil) (by rfl) (by rfl) (fun z => by cases z) (by simp))).imp fun σ H Q ⟨F, env, P, ok, hw, fin⟩ => fun p hp => ?_
  have s0 : Same H (upd H p (.dK [])) := same_new hp
  have nD : ∀ i : Nat, σ[i]? ≠ some (some (.ref p)) := fun i e => ok.refs i _ e hp
  have nF : F p = none := ok.noF hp
  refine ⟨F, env, _, ok.growH s0, hw, fun r e1 h1 v F1 H1 xt1 rp1 ok1 => ?_⟩
  obtain ⟨F1', xt1', rp1', ok1'⟩ := share ok1 rp1 (ok.same.trans s0) (fun i a e => Same.ne s0 (ok.refs i a e)) xt1
  refine ⟨F1', e1, _, ok1', h1, fun r' e2 h2 u F2 H2 xt2 rp2 ok2 => ?_⟩
  obtain ⟨F2', xt2', rp2', ok2'⟩ := share ok2 rp2 ok1'.same ok1'.refs xt2
  obtain ⟨hk, hP⟩ := h2
  obtain ⟨kk, ek⟩ := kD_of hk
  have ev := rep_kD (by rw [← ek]; exact rp1')
  subst ev
  have xt := xt1'.trans xt2'
  have hp2 : H2 p = some (.dK []) := xt.same _ _ upd_same
  have nF2 : F2' p = none := xt.fr p nF (by rw [upd_same]; exact fun z => nomatch z) nD
  refine ⟨hp2, [(kk, u)], rfl, by simp, p, [(kk, u)], rfl, ?_, fun o hs di => ?_⟩
  · rw [upd_same]; rfl
  · rw [upd_upd]
    rw [ek] at hP
    have hp0 : H p = none := hp
    refine fin _ _ hP (.ref p) F2' _ ⟨xt.sub, ?_, fun q q1 q2 q3 => ?_⟩ (.own rfl nF2 hp0 ⟨o, _, _, upd_same, hs, reps_kV [(kk, u)], .cons rp2' .nil, di⟩) ?_
    · exact same_upd2 (s0.trans xt.same) hp
    · exact xt.fr q q1 (Same.ne s0 q2) q3
    · exact ok2'.updOut nF2 (Same.free ok.same hp) nD

/-! ### dict comprehensions -/
structure DcW (w : World) (F0 H0 F1 H1 : Hp) (e1 : VE) (σ : L2.St) (Dd : Addr) (ks vs : List D) (F H : Hp) : Prop where
  hD : ∃ kvs : List (Key × V), H Dd = some (.dK kvs) ∧ ks = kvs.map (fun q => kD q.1) ∧ Reps w F (kvs.map (·.2)) vs ∧ (kvs.map (·.1)).Nodup
  nF : F Dd = none
  xt : Xt F1 H1 F H σ
  ok : EnvOk w F0 H0 F H e1 σ
  st : ∀ a, F a ≠ none → F1 a ≠ none ∨ H1 a = none
theorem dc_read {w : World} {J : L2.It} {items : List D} {F1 H1 : Hp} {e1 : VE} {σ : L2.St} {g : TG} {t : Tg} {kx vx : Ex} {I : Nat → List D → List D → Prop} {Q : Hp → Prop} {Dd : Addr}
    (jr : ItRep w H1 F1 J items) (ok1 : EnvOk w F0 H0 F1 H1 e1 σ) (hD : H1 Dd = none)
    (tgo : ∀ {F H : Hp} {env : VE} {σ : L2.St} {v : V} {d : D} {P : VE → Prop} {Q : L2.St → Hp → Prop}, EnvOk w F0 H0 F H env σ → Rep w F v d → bindT t d env P → (∀ e' σ', P e' → Left w F0 H0 F H t σ e' σ' → Q σ' H) → g v σ H Q)
    (I0 : I 0 [] []) (Is : ∀ i d ks vs, items[i]? = some d → I i ks vs → bindT t d (wipeE e1 t.slots) fun e2 => wE G EF kx e2 fun r e3 => e3 = e2 ∧ wE G EF vx e3 fun r' e4 => e4 = e2 ∧
          KeyOk ks r.2 ∧ kd r.2 = 0 ∧ ks.length < sizeLine ∧ I (i + 1) (dputK ks r.2) (dputV ks vs r.2 r'.2))
    (Ie : ∀ ks vs F H, I items.length ks vs → DcW w F0 H0 F1 H1 e1 σ Dd ks vs F H → Q H) :
    ∃ W : Nat → Nat → Hp → Prop, (∃ m, W 0 m (upd H1 Dd (.dK []))) ∧ ∀ i m H, W i m H →
      (J.stop i H ∧ Q H) ∨ (J.go i H ∧ ∃ Nx : Hp → Prop, (∀ H', Nx H' → ∃ m', m' < m ∧ W (i + 1) m' H') ∧ ∀ x H', J.yld i H x H' → g x (L2.wipe σ t.slots) H' fun σ2 H2 => L2.wipe σ2 t.slots = L2.wipe σ t.slots ∧ tYes σ2 H2 fun b H3 =>
        if b = true then tE w G F0 H0 kx σ2 H3 fun y H4 => tE w G F0 H0 vx σ2 H4 fun z H5 => ∃ kvs k, y = kV k ∧ H5 Dd = some (.dK kvs) ∧ kvs.length < sizeLine ∧ Nx (upd H5 Dd (.dK (putK kvs k z))) else Nx H3) := by
  have sD : ∀ o, Same H1 (upd H1 Dd o) := fun o => same_new hD
  have nD : ∀ i : Nat, σ[i]? ≠ some (some (.ref Dd)) := fun i e => ok1.refs i _ e hD
  have hD0 : H0 Dd = none := Same.free ok1.same hD
  refine ⟨fun i m H => m = items.length - i ∧ i ≤ items.length ∧ ∃ F ks vs, I i ks vs ∧ DcW w F0 H0 F1 H1 e1 σ Dd ks vs F H, ⟨items.length, by simp, Nat.zero_le _, F1, [], [], I0, ⟨[], upd_same, rfl, .nil, List.nodup_nil⟩, ok1.noF hD, .growH (sD _), ok1.growH (sD _), fun a h => .inl h⟩, ?_⟩
  rintro i m H ⟨rfl, hi, F, ks, vs, hI, lw⟩
  have sH : Same H1 H := lw.xt.same
  by_cases hlt : i < items.length
  · refine .inr ⟨jr.go i _ H (List.getElem?_eq_getElem hlt) sH, fun H' => ∃ F ks vs, I (i + 1) ks vs ∧ DcW w F0 H0 F1 H1 e1 σ Dd ks vs F H', fun H' q => ⟨items.length - (i + 1), by omega, rfl, hlt, q⟩, fun x H' hy => ?_⟩
    obtain ⟨s1, hy⟩ := jr.yld i _ x H H' (List.getElem?_eq_getElem hlt) sH hy
    obtain ⟨F', f1, f2, f3, rx⟩ := hy F lw.xt.sub lw.ok.sub
    have okw' : EnvOk w F0 H0 F' H' e1 σ := lw.ok.grow f1 f2 s1 f3
    have nF' : F' Dd = none := by
      cases q : F' Dd with
      | none => rfl
      | some o =>
        obtain ⟨xs, hx, _⟩ := lw.hD
        rcases f3 Dd (by rw [q]; exact fun z => nomatch z) with z | z
        · exact absurd lw.nF z
        · rw [hx] at z; cases z
    have b := Is i _ ks vs (List.getElem?_eq_getElem hlt) hI
    refine tgo (okw'.wipe t.slots) rx b fun e2 σ2 h2 l2 => ⟨?_, ?_⟩
    · rw [l2.wp t.slots fun i hi => hi]
      exact wipe_idem fun i hi => hi
    have nD2 : ∀ j : Nat, σ2[j]? ≠ some (some (.ref Dd)) := fun j e => by
      rcases l2.rf j _ e with ⟨j', z⟩ | z
      · exact nD j' (wipe_some z).1
      · exact z nF'
    have back : ∀ {F4 H4 : Hp}, Xt F' H' F4 H4 σ2 → EnvOk w F0 H0 F4 H4 e2 σ2 → EnvOk w F0 H0 F4 H4 e1 σ ∧ (∀ a, F4 a ≠ none → F' a ≠ none ∨ H' a = none) := fun {F4 H4} xt ok4 => by
      have fr := Xt.strong l2.ok ok4 xt
      exact ⟨okw'.grow xt.sub ok4.sub xt.same fr, fr⟩
    have tot : ∀ {F4 H4 : Hp}, Xt F' H' F4 H4 σ2 → (∀ a, F4 a ≠ none → F' a ≠ none ∨ H' a = none) → (∀ a, F4 a ≠ none → F1 a ≠ none ∨ H1 a = none) := fun {F4 H4} xt fr a h => by
      rcases fr a h with z | z
      · rcases f3 a z with z | z
        · exact lw.st a z
        · exact .inr (Same.free sH z)
      · exact .inr (Same.free (sH.trans s1) z)
    have xtOf : ∀ {F4 H4 : Hp}, Same F1 F4 → Same H1 H4 → (∀ a, F4 a ≠ none → F1 a ≠ none ∨ H1 a = none) → Xt F1 H1 F4 H4 σ := fun {F4 H4} a b c => ⟨a, b, fun x q1 q2 _ => by
      cases q : F4 x with
      | none => rfl
      | some o =>
        rcases c x (by rw [q]; exact fun z => nomatch z) with z | z
        · exact absurd q1 z
        · exact absurd z q2⟩
    have sF1 : Same F1 F' := lw.xt.sub.trans f1
    unfold tYes
    refine L2.iteT ?_
    refine ⟨F', e2, _, l2.ok, h2, fun r e3 ⟨h3, hc⟩ y F3 H3 xt3 rp3 ok3 => ?_⟩
    subst h3
    obtain ⟨F4, xt4, rp4, ok4⟩ := share ok3 rp3 l2.ok.same l2.ok.refs xt3
    refine ⟨F4, e3, _, ok4, hc, fun r' e4 ⟨h4, hk, hk0, hz, hI'⟩ z F5 H5 xt5 rp5 ok5 => ?_⟩
    subst h4
    obtain ⟨F6, xt6, rp6, ok6⟩ := share ok5 rp5 ok4.same ok4.refs xt5
    have xtA : Xt F' H' F6 H5 σ2 := xt4.trans xt6
    obtain ⟨b6, fr6⟩ := back xtA ok6
    obtain ⟨kvs, hx, ek, rvs, nd⟩ := lw.hD
    have hx5 : H5 Dd = some (.dK kvs) := xtA.same _ _ (s1 _ _ hx)
    have n6 : F6 Dd = none := xtA.fr Dd nF' (Same.ne s1 (by rw [hx]; exact fun z => nomatch z)) nD2
    obtain ⟨kk, ekk⟩ := kD_of hk0
    have ey : y = kV kk := rep_kD (by rw [← ekk]; exact rp4)
    obtain ⟨p1, p2, p3⟩ := put_rel (kk := kk) rp6 (rvs.mono (f1.trans xtA.sub)) nd
    refine ⟨kvs, kk, ey, hx5, by rw [ek, List.length_map] at hz; exact hz, F6, _, _, hI', ⟨_, upd_same, by rw [ek, ekk, p1], by rw [ek, ekk]; exact p2, p3⟩, n6, xtOf (sF1.trans xtA.sub) ?_ (tot xtA fr6), b6.updOut n6 hD0 nD, tot xtA fr6⟩
    exact same_upd2 (sH.trans (s1.trans xtA.same)) hD
  · have e : i = items.length := by omega
    subst e
    exact .inl ⟨jr.stop H sH, Ie ks vs F H hI lw⟩
theorem dc_imp {t : Tg} {g : TG} {fz : List Nat} {kx vx : Ex} {it : Itx} {w : World} {σ : L2.St} {H : Hp} {Q : VK}
    (tgo : ∀ {F H : Hp} {env : VE} {σ : L2.St} {v : V} {d : D} {P : VE → Prop} {Q : L2.St → Hp → Prop}, EnvOk w F0 H0 F H env σ → Rep w F v d → bindT t d env P → (∀ e' σ', P e' → Left w F0 H0 F H t σ e' σ' → Q σ' H) → g v σ H Q)
    (h : tE w G F0 H0 (.dc fz kx vx t it) σ H Q) : tDc (tIt w G F0 H0 it) g tYes (tE w G F0 H0 kx) (tE w G F0 H0 vx) t.slots σ H fun v H' => ∃ p kvs, v = .ref p ∧ H' p = some (.dK kvs) ∧
      ∀ o, (p == sysModules) = false → DictIs w o (kvs.map fun q => kV q.1) (kvs.map (·.2)) (kvs.map fun q => kD q.1) → Q v (upd H' p (dictO o p)) := by
  obtain ⟨F, env, P, ok, hw, fin⟩ := h
  obtain ⟨F', x0, ok0⟩ := ok.frzL (is := fz)
  refine ⟨F', _, _, ok0, hw, fun items e1 ⟨I, I0, Is, Ie⟩ J F1 H1 xt1 jr ok1 Dd hD => ?_⟩
  refine dc_read (G := G) jr ok1 hD tgo I0 Is fun ks vs F2 H2 hI lw => ?_
  obtain ⟨kvs, hx, ek, rvs, nd⟩ := lw.hD
  have nD : ∀ i : Nat, σ[i]? ≠ some (some (.ref Dd)) := fun i e => ok1.refs i _ e hD
  have hDs : H Dd = none := Same.free (x0.same.trans xt1.same) hD
  refine ⟨Dd, kvs, rfl, hx, fun o hs di => ?_⟩
  have xt := x0.trans (xt1.trans lw.xt)
  have hP := Ie ks vs hI
  rw [ek] at hP
  refine fin _ _ hP (.ref Dd) F2 _ ⟨xt.sub, same_upd2 xt.same hDs, xt.fr⟩ (.own rfl lw.nF hDs ⟨o, _, _, upd_same, hs, reps_kV kvs, rvs, di⟩) (lw.ok.updOut lw.nF (Same.free ok.same hDs) nD)
theorem se_dc {own : List (Str × Nat)} {scope : Scope} {kx vx iter tg : Expr} {fz : List Nat} {ek ev : Ex} {t : Tg} {it : Itx} {g : TG} (L : LcOk X N G k sc F0 H0 scope own tg iter [] t it .none g)
    (hk : ∀ Y : Cx, Cok Y N G k (relS scope sc) → Y.w = X.w → PE Y kx (tE Y.w G F0 H0 ek)) (hv : ∀ Y : Cx, Cok Y N G k (relS scope sc) → Y.w = X.w → PE Y vx (tE Y.w G F0 H0 ev)) :
    PE X (.DictComp kx vx [⟨tg, iter, [], 0⟩] scope pos) (tE X.w G F0 H0 (.dc fz ek ev t it)) := by
  refine (PE.toX (pe_dc (own := own) (g := g) (tt := tYes) (tk := tE X.w G F0 H0 ek) (tv := tE X.w G F0 H0 ev) L.C.calm (by rw [L.C.nm]; exact L.C.nd) L.hi (blkOk_by (by rw [L.C.nm, L.C.scp]; exact L.bk)) (fun s H Cc cl fp => (L.hg _ (blk_ok L.C) blk_st rfl rfl).pg) (fun s H Cc cl fp => pts_nil) (fun s H Cc cl fp => hk _ (blk_ok L.C) rfl) (fun s H Cc cl fp => hv _ (blk_ok L.C) rfl) L.hs)).imp fun σ H Q h => ?_
  rw [L.own]
  exact dc_imp L.go h
/-- y = {..} on one line -/
theorem ps_setDc {i : Nat} {y : Str} {py : Pos} {kx vx tg iter : Expr} {scope : Scope} {own : List (Str × Nat)} {pos spos : Pos} {wi : TI} {g : TG} {tk tv : TE} (hc : X.calm = true) (hN : X.N.Nodup) (hy : X.N[i]? = some y) (hyl : X.env.scope.names.lookup y = some .local)
    (hsw : swapsWith (.DictComp kx vx [⟨tg, iter, [], 0⟩] scope pos) (some (.Name y py)) spos.line X.env = pure true) (hi : PI X tg iter wi) (ok : BlkOk X.N X.env.scope scope own)
    (hg : ∀ (s : Shared) (H : Hp) (C : Addr) (cl : List (Str × Addr)) (fp : List Addr), PG (X.blk s H scope (compEnvC scope cl C X.env) fp) tg g)
    (hk : ∀ (s : Shared) (H : Hp) (C : Addr) (cl : List (Str × Addr)) (fp : List Addr), PE (X.blk s H scope (compEnvC scope cl C X.env) fp) kx tk)
    (he : ∀ (s : Shared) (H : Hp) (C : Addr) (cl : List (Str × Addr)) (fp : List Addr), PE (X.blk s H scope (compEnvC scope cl C X.env) fp) vx tv) (hs : ∀ x, foldedSetIterable iter X.env x = pure x) :
    PS X (.Assign [.Name y py] (.DictComp kx vx [⟨tg, iter, [], 0⟩] scope pos) spos) (fun D σ H => tDc wi g tYes tk tv (own.map (·.2)) σ H fun v H' => ∃ p kvs, v = .ref p ∧ H' p = some (.dK kvs) ∧
      ∀ o, (p == sysModules) = false → DictIs X.w o (kvs.map fun q => kV q.1) (kvs.map (·.2)) (kvs.map fun q => kD q.1) → D.nx (σ.set i (some v)) (upd H' p (dictO o p))) := by
  refine ⟨fun pins s σ H D I h => ?_⟩
  rw [exec_Assign_Name_used _ _ _ _ hsw]
  refine wpAny_bind (wpAny_standAt (wpAny_bind ?_))
  show wpAny _ X.A (do let _ ← comprehension (.DictComp kx vx [⟨tg, iter, [], 0⟩] scope pos) scope X.env (firstIterPos [⟨tg, iter, [], 0⟩] pos) newDict false (eval iter X.env) (some (assign (.Name y py) X.env))) _ _ s
  refine wpAny_bind (thn (dc_core (Qf := fun _ s' => SP X pins D .next s') hc hN I hi ok hg (fun _ _ _ _ _ => pts_nil) hk he hs h fun L C s' m H' I' q hn f => ?_) fun _ s' hq => wpAny_pure (wpAny_pure hq))
  obtain ⟨p, kvs, ep, hp, f2⟩ := q
  cases ep
  obtain ⟨o, h1, h2, h3⟩ := Vi.toX I' hp
  have q2 := f2 o h1 h2
  show wpAny _ _ (assign (.Name y py) X.env (.ref L)) _ _ _
  have fC : FpOk X pins (upd H' L (dictO o L)) C := by
    obtain ⟨f0, f1⟩ := f
    exact ⟨by rw [upd_ne (fun z => by subst z; rw [hp] at f0; cases f0)]; exact f0, f1⟩
  refine wpAny_assign_Name (store_ok2 (v := V.ref L) h3 hN hy (.inl hyl) rfl (fun s2 I2 ⟨a, sb, ha⟩ => ?_) (.inr hyl))
  obtain ⟨f0, f1, f2', f3, f4, f5⟩ := fC
  have haC : C ≠ a := by
    rcases ha with z | z
    · rw [z]; exact f1
    · exact fun e => f4 y a z e.symm
  refine ⟨m, hn.sameBut sb haC, fun h3' sb3 => ?_⟩
  exact ⟨_, _, I2.turned (t' := s2.toks) (fun b o hb e => (sb3.2 b hb).trans e) f0 f1 f3 f4 f5, q2⟩
end
end Vi
set_option Elab.async false
set_option linter.all false
set_option maxRecDepth 100000
/-! ViK: statements. -/
namespace Vi
open PySem PySem.Spec PyProof.Rows L2
section
variable (w : World) (G : Str → Option (Nat × Ctr)) (F0 H0 : Hp)
/-- what is wanted, in deep values and in the heap -/
structure Clo (F : Hp) (K : KE) (D : Ends) : Prop where
  nx : ∀ e', K.nx e' → ∀ σ' F' H', Same F F' → EnvOk w F0 H0 F' H' e' σ' → D.nx σ' H'
  bk : ∀ e', K.bk e' → ∀ σ' F' H', Same F F' → EnvOk w F0 H0 F' H' e' σ' → D.bk σ' H'
  ct : ∀ e', K.ct e' → ∀ σ' F' H', Same F F' → EnvOk w F0 H0 F' H' e' σ' → D.ct σ' H'
  rt : ∀ r, K.rt r → ∀ v F' H', Same F0 F' → Same F' H' → Same H0 H' → (∀ a, F' a ≠ none → F0 a ≠ none ∨ H0 a = none) → RepR w H0 F' H' v r → D.rt v H'
def tCm (c : Cm) : TS := fun D σ H => ∃ F env K, EnvOk w F0 H0 F H env σ ∧ wC G EF c env K ∧ Clo w F0 H0 F K D
def tCs (cs : Cms) : TS := fun D σ H => ∃ F env K, EnvOk w F0 H0 F H env σ ∧ wCs G EF cs env K ∧ Clo w F0 H0 F K D
end
section
variable {X : Cx} {N : List Str} {G : Str → Option (Nat × Ctr)} {k : Nat} {sc : Scope} {F0 H0 : Hp} {e a b c tg : Expr} {pos : Pos}
theorem Clo.mono {w : World} {F F' : Hp} {K : KE} {D : Ends} (s : Same F F') (c : Clo w F0 H0 F K D) : Clo w F0 H0 F' K D :=
  ⟨fun e h σ F2 H2 s2 ok => c.nx e h σ F2 H2 (s.trans s2) ok, fun e h σ F2 H2 s2 ok => c.bk e h σ F2 H2 (s.trans s2) ok, fun e h σ F2 H2 s2 ok => c.ct e h σ F2 H2 (s.trans s2) ok, c.rt⟩
theorem cs_nil : PSs X [] (tCs X.w G F0 H0 .nil) := pss_nil.imp fun D σ H ⟨F, env, K, ok, hw, clo⟩ => clo.nx _ hw σ F H (Same.refl _) ok
theorem cs_cons {st : Stmt} {rest : List Stmt} {c : Cm} {cs : Cms} (h1 : PS X st (tCm X.w G F0 H0 c)) (h2 : PSs X rest (tCs X.w G F0 H0 cs)) : PSs X (st :: rest) (tCs X.w G F0 H0 (.cons c cs)) :=
  (pss_cons h1 h2).imp fun D σ H ⟨F, env, K, ok, hw, clo⟩ => ⟨F, env, _, ok, hw, fun e h σ' F' H' s ok' => ⟨F', e, K, ok', h, clo.mono s⟩, clo.bk, clo.ct, clo.rt⟩
theorem cs_pass : PS X (.Pass pos) (tCm X.w G F0 H0 .pass) := ps_pass.imp fun D σ H ⟨F, env, K, ok, hw, clo⟩ => clo.nx _ hw σ F H (Same.refl _) ok
theorem cs_brk : PS X (.Break pos) (tCm X.w G F0 H0 .brk) := ps_break.imp fun D σ H ⟨F, env, K, ok, hw, clo⟩ => clo.bk _ hw σ F H (Same.refl _) ok
theorem cs_cont : PS X (.Continue pos) (tCm X.w G F0 H0 .cont) := ps_continue.imp fun D σ H ⟨F, env, K, ok, hw, clo⟩ => clo.ct _ hw σ F H (Same.refl _) ok
theorem cs_ite {t : Tx} {sa sb : List Stmt} {x y : Cms} (hc : PT X c (tTx X.w G F0 H0 t)) (ha : PSs X sa (tCs X.w G F0 H0 x)) (hb : PSs X sb (tCs X.w G F0 H0 y)) : PS X (.If c sa sb pos) (tCm X.w G F0 H0 (.ite t x y)) :=
  (ps_if hc ha hb).imp fun D σ H ⟨F, env, K, ok, hw, clo⟩ => ⟨F, env, _, ok, hw, fun c e1 h1 F1 H1 xt1 ok1 => by
    cases c with
    | true => exact ⟨F1, e1, K, ok1, h1, clo.mono xt1.sub⟩
    | false => exact ⟨F1, e1, K, ok1, h1, clo.mono xt1.sub⟩⟩
theorem RepR.at0 {w : World} {H Hs F' H' : Hp} {v : V} {r : R} (s : Same Hs H) (h : RepR w H F' H' v r) : RepR w Hs F' H' v r := by
  unfold RepR at h ⊢
  split
  · rename_i q; rw [if_pos q] at h
    obtain ⟨p, e, a, b, c⟩ := h
    exact ⟨p, e, a, Same.free s b, c⟩
  · rename_i q; rw [if_neg q] at h; exact h
/-- behind a stored result -/
theorem set_clo {w : World} {F H F' H' : Hp} {env e' : VE} {σ : L2.St} {i : Nat} {r : R} {v : V} {K : KE} {D : Ends} (ok : EnvOk w F0 H0 F H env σ) (clo : Clo w F0 H0 F K D) (h : K.nx (e'.set i (some r))) (xt : Xt F H F' H' σ) (rp : RepR w H F' H' v r) (ok' : EnvOk w F0 H0 F' H' e' σ) : D.nx (σ.set i (some v)) H' :=
  clo.nx _ h _ F' H' xt.sub (ok'.set rp ok.same ok.refs)
theorem cs_set {i : Nat} {x : Str} {px : Pos} {ex : Ex} (C : Cok X N G k sc) (hN : N[i]? = some x) (hx : Loc sc x) (hf : X.fn x = true) (he : PE X e (tE X.w G F0 H0 ex)) (hs : swapsWith e (some (.Name x px)) pos.line X.env = pure false) : PS X (.Assign [.Name x px] e pos) (tCm X.w G F0 H0 (.set i ex)) :=
  (ps_set (i := i) (by rw [C.nm]; exact C.nd) (by rw [C.nm]; exact hN) (by rw [C.scp]; exact hx) he hs (.inl hf)).imp fun D σ H ⟨F, env, K, ok, hw, clo⟩ => ⟨F, env, _, ok, hw, fun r e' h v F' H' xt rp ok' => set_clo ok clo h xt rp ok'⟩
theorem sw_lc {elt : Expr} {gs : List Comprehension} {scope : Scope} {pos py : Pos} {y : Str} {l : Nat} {env : Env} (hk : env.scope.kind = .function) (hl : ((env.scope.names.lookup y == some .local) && (py.line == pos.line) && !(scope.names.any fun (n, k) => n == y && (k == .local || k == .cell))) = b') :
    swapsWith (.ListComp elt gs scope pos) (some (.Name y py)) l env = pure b' := by
  have hb : env.blockKind = .function := by unfold Env.blockKind; rw [hk]; rfl
  unfold swapsWith
  simp only [hb, Expr.pos]
  subst hl
  rfl
theorem sw_dc {kx vx : Expr} {gs : List Comprehension} {scope : Scope} {pos py : Pos} {y : Str} {l : Nat} {env : Env} (hk : env.scope.kind = .function) (hl : ((env.scope.names.lookup y == some .local) && (py.line == pos.line) && !(scope.names.any fun (n, k) => n == y && (k == .local || k == .cell))) = b') :
    swapsWith (.DictComp kx vx gs scope pos) (some (.Name y py)) l env = pure b' := by
  have hb : env.blockKind = .function := by unfold Env.blockKind; rw [hk]; rfl
  unfold swapsWith
  simp only [hb, Expr.pos]
  subst hl
  rfl
theorem cs_setLc {i : Nat} {x : Str} {px spos : Pos} {own : List (Str × Nat)} {scope : Scope} {elt iter tg : Expr} {ifs : List Expr} {fz : List Nat} {el : Ex} {t : Tg} {it : Itx} {cond : Txs} {g : TG} (L : LcOk X N G k sc F0 H0 scope own tg iter ifs t it cond g)
    (he : ∀ Y : Cx, Cok Y N G k (relS scope sc) → Y.w = X.w → PE Y elt (tE Y.w G F0 H0 el)) (hN : N[i]? = some x) (hx : sc.names.lookup x = some .local)
    (hsw : swapsWith (.ListComp elt [⟨tg, iter, ifs, 0⟩] scope pos) (some (.Name x px)) spos.line X.env = pure true) : PS X (.Assign [.Name x px] (.ListComp elt [⟨tg, iter, ifs, 0⟩] scope pos) spos) (tCm X.w G F0 H0 (.set i (.lc fz el t it cond))) := by
  refine (ps_setLc (i := i) (own := own) (g := g) (tt := tTxs X.w G F0 H0 cond) (te := tE X.w G F0 H0 el) L.C.calm (by rw [L.C.nm]; exact L.C.nd) (by rw [L.C.nm]; exact hN) (by rw [L.C.scp]; exact hx) hsw L.hi (blkOk_by (by rw [L.C.nm, L.C.scp]; exact L.bk)) (fun s H Cc cl fp => (L.hg _ (blk_ok L.C) blk_st rfl rfl).pg) (fun s H Cc cl fp => L.ht _ (blk_ok L.C) rfl) (fun s H Cc cl fp => he _ (blk_ok L.C) rfl) L.hs).imp fun D σ H ⟨F, env, K, ok, hw, clo⟩ => ?_
  rw [L.own]
  exact lc_imp L.go ⟨F, env, _, ok, (show wE G EF (.lc fz el t it cond) env fun r e1 => K.nx (e1.set i (some r)) from hw), fun r e' h v F' H' xt rp ok' => set_clo ok clo h xt rp ok'⟩
theorem cs_setDc {i : Nat} {x : Str} {px spos : Pos} {own : List (Str × Nat)} {scope : Scope} {kx vx iter tg : Expr} {fz : List Nat} {ek ev : Ex} {t : Tg} {it : Itx} {g : TG} (L : LcOk X N G k sc F0 H0 scope own tg iter [] t it .none g)
    (hk : ∀ Y : Cx, Cok Y N G k (relS scope sc) → Y.w = X.w → PE Y kx (tE Y.w G F0 H0 ek)) (hv : ∀ Y : Cx, Cok Y N G k (relS scope sc) → Y.w = X.w → PE Y vx (tE Y.w G F0 H0 ev)) (hN : N[i]? = some x) (hx : sc.names.lookup x = some .local)
    (hsw : swapsWith (.DictComp kx vx [⟨tg, iter, [], 0⟩] scope pos) (some (.Name x px)) spos.line X.env = pure true) : PS X (.Assign [.Name x px] (.DictComp kx vx [⟨tg, iter, [], 0⟩] scope pos) spos) (tCm X.w G F0 H0 (.set i (.dc fz ek ev t it))) := by
  refine (ps_setDc (i := i) (own := own) (g := g) (tk := tE X.w G F0 H0 ek) (tv := tE X.w G F0 H0 ev) L.C.calm (by rw [L.C.nm]; exact L.C.nd) (by rw [L.C.nm]; exact hN) (by rw [L.C.scp]; exact hx) hsw L.hi (blkOk_by (by rw [L.C.nm, L.C.scp]; exact L.bk)) (fun s H Cc cl fp => (L.hg _ (blk_ok L.C) blk_st rfl rfl).pg) (fun s H Cc cl fp => hk _ (blk_ok L.C) rfl) (fun s H Cc cl fp => hv _ (blk_ok L.C) rfl) L.hs).imp fun D σ H ⟨F, env, K, ok, hw, clo⟩ => ?_
  rw [L.own]
  exact dc_imp L.go (Q := fun v H' => D.nx (σ.set i (some v)) H') ⟨F, env, _, ok, (show wE G EF (.dc fz ek ev t it) env fun r e1 => K.nx (e1.set i (some r)) from hw), fun r e' h v F' H' xt rp ok' => set_clo ok clo h xt rp ok'⟩
theorem cs_setT {is : List Nat} {es : List Expr} {kk : Nat} {tp : Pos} {ex : Ex} (hc : X.calm = true) (hn : NmsOk X N is es) (he : PE X e (tE X.w G F0 H0 ex)) (hs : swapsWithSole [.Tuple es kk tp] e pos.line X.env = pure false) (hw : swappedStores [.Tuple es kk tp] e X.env = pure none) :
    PS X (.Assign [.Tuple es kk tp] e pos) (tCm X.w G F0 H0 (.setT is ex)) := by
  have T := tg_tp (F0 := F0) (H0 := H0) (pos := tp) (kk := kk) hc hn
  refine (ps_asg he T.pg hs hw rfl).imp fun D σ H ⟨F, env, K, ok, hw, clo⟩ => ⟨F, env, _, ok, hw, fun r e' h v F' H' xt rp ok' => ?_⟩
  obtain ⟨F2, xt2, rp2, ok2⟩ := share ok' rp ok.same ok.refs xt
  exact T.go ok2 rp2 h fun e2 σ2 h2 l => clo.nx _ h2 σ2 F2 H' xt2.sub l.ok
theorem cs_ex {ex : Ex} (he : PE X e (tE X.w G F0 H0 ex)) (hs : swapsWith e none pos.line X.env = pure false) : PS X (.Expr e pos) (tCm X.w G F0 H0 (.ex ex)) :=
  (ps_expr he hs).imp fun D σ H ⟨F, env, K, ok, hw, clo⟩ => ⟨F, env, _, ok, hw, fun r e' h v F' H' xt rp ok' => clo.nx _ h σ F' H' xt.sub ok'⟩
theorem cs_ret {ex : Ex} (he : PE X e (tE X.w G F0 H0 ex)) (hv : isVar ex = false) : PS X (.Return (some e) pos) (tCm X.w G F0 H0 (.ret ex)) := by
  refine (ps_ret he).imp fun D σ H ⟨F, env, K, ok, hw, clo⟩ => ?_
  have hw' : wE G EF ex env fun r _ => K.rt r := by cases ex <;> first | exact hw | cases hv
  exact ⟨F, env, _, ok, hw', fun r e' h v F' H' xt rp ok' => clo.rt r h v F' H' ok'.sub0 ok'.sub ok'.same ok'.fr (rp.at0 ok.same)⟩
theorem cs_retV {i : Nat} {x : Str} {px : Pos} (C : Cok X N G k sc) (hN : N[i]? = some x) (hv : Vis sc x) (hd : (x == ("__debug__" : Str)) = false) (hcd : (x == ("__classdict__" : Str)) = false) : PS X (.Return (some (.Name x px)) pos) (tCm X.w G F0 H0 (.ret (.var i))) := by
  refine (ps_ret (pe_var (i := i) (by rw [C.nm]; exact hN) (by rw [C.scp]; exact hv) hd hcd)).imp fun D σ H ⟨F, env, K, ok, hw, clo⟩ => ?_
  simp only [wC] at hw
  split at hw
  · rename_i r er
    obtain ⟨v, e1, rp⟩ := ok.slot i _ er
    exact ⟨v, e1, clo.rt r hw v F H ok.sub0 ok.sub ok.same ok.fr rp⟩
  · exact hw.elim
theorem cs_retN : PS X (.Return none pos) (tCm X.w G F0 H0 .retN) := ps_retN.imp fun D σ H ⟨F, env, K, ok, hw, clo⟩ => clo.rt _ hw .non F H ok.sub0 ok.sub ok.same ok.fr (.fro .non)
/-! ### loops -/
theorem cs_while {t : Tx} {body : List Stmt} {cs : Cms} (hp : PassesOwn (model X.prog X.w) X.A X.env X.xe) (hc : PT X c (tTx X.w G F0 H0 t)) (hb : PSs X body (tCs X.w G F0 H0 cs)) : PS X (.While c body [] pos) (tCm X.w G F0 H0 (.while_ t cs)) := by
  refine (ps_while hp hc hb).imp fun D σ H ⟨F, env, K, ok, hw, clo⟩ => ?_
  obtain ⟨I, ⟨m, hI⟩, step⟩ := (hw : ∃ I : Nat → VE → Prop, (∃ m, I m env) ∧ ∀ m e, I m e → wT G EF t e fun c e1 => if c = true then wCs G EF cs e1 { K with nx := fun e2 => ∃ m', m' < m ∧ I m' e2, ct := fun e2 => ∃ m', m' < m ∧ I m' e2, bk := K.nx } else K.nx e1)
  refine ⟨fun m σ' H' => ∃ F' e', Same F F' ∧ EnvOk X.w F0 H0 F' H' e' σ' ∧ I m e', ⟨m, F, env, Same.refl _, ok, hI⟩, ?_⟩
  rintro m σ' H' ⟨F', e', s', ok', hI'⟩
  refine ⟨F', e', _, ok', step m e' hI', fun c e1 h1 F1 H1 xt1 ok1 => ?_⟩
  cases c with
  | true =>
    simp only [if_true] at h1 ⊢
    refine ⟨fun σ2 H2 => ∃ m', m' < m ∧ ∃ F2 e2, Same F F2 ∧ EnvOk X.w F0 H0 F2 H2 e2 σ2 ∧ I m' e2, fun σ2 H2 h => h, F1, e1, _, ok1, h1, ?_, ?_, ?_, clo.rt⟩
    · rintro e2 ⟨m', hm, hI2⟩ σ2 F2 H2 s2 ok2
      exact ⟨m', hm, F2, e2, s'.trans (xt1.sub.trans s2), ok2, hI2⟩
    · exact fun e2 h σ2 F2 H2 s2 ok2 => clo.nx e2 h σ2 F2 H2 (s'.trans (xt1.sub.trans s2)) ok2
    · rintro e2 ⟨m', hm, hI2⟩ σ2 F2 H2 s2 ok2
      exact ⟨m', hm, F2, e2, s'.trans (xt1.sub.trans s2), ok2, hI2⟩
  | false =>
    simp only [Bool.false_eq_true, if_false] at h1 ⊢
    exact clo.nx e1 h1 σ' F1 H1 (s'.trans xt1.sub) ok1
theorem frzL_no : ∀ {is : List Nat} {env : VE} {i : Nat} {r : R}, i ∈ is → (Vi.frzL env is)[i]? = some (some r) → r.1 = false := by
  have keep : ∀ {is : List Nat} {env : VE} {i : Nat}, (∀ r, env[i]? = some (some r) → r.1 = false) → ∀ r, (Vi.frzL env is)[i]? = some (some r) → r.1 = false := by
    intro is
    induction is with
    | nil => intro env i h; exact h
    | cons j is ih =>
      intro env i h
      refine ih fun r e => ?_
      unfold frz1 at e
      split at e
      · rename_i r' er
        by_cases hj : j = i
        · subst hj
          rw [List.getElem?_set_self (List.getElem?_eq_some_iff.mp er).1] at e
          cases e; rfl
        · rw [List.getElem?_set_ne hj] at e; exact h r e
      · exact h r e
  intro is
  induction is with
  | nil => intro env i r h; cases h
  | cons j is ih =>
    intro env i r h
    by_cases hm : i ∈ is
    · exact ih hm
    · rcases List.mem_cons.mp h with rfl | h
      · refine @keep is (frz1 env i) i (fun r e => ?_) r
        unfold frz1 at e
        split at e
        · rename_i r' er
          rw [List.getElem?_set_self (List.getElem?_eq_some_iff.mp er).1] at e
          cases e; rfl
        · rename_i hno
          exact absurd e (hno r)
      · exact absurd h hm
theorem cs_for {t : Tg} {it : Itx} {iter : Expr} {body : List Stmt} {cs : Cms} {g : TG} (hp : PassesOwn (model X.prog X.w) X.A X.env X.xe) (hc : X.calm = true) (hi : PI X tg iter (tItF X.w G F0 H0 it)) (hg : TgOk X F0 H0 tg t g) (hb : PSs X body (tCs X.w G F0 H0 cs))
    (hs : ∀ x, foldedSetIterable iter X.env x = pure x) : PS X (.For tg iter body [] pos) (tCm X.w G F0 H0 (.for_ t it cs)) := by
  refine (ps_for hp hc hi hg.pg hb hs).imp fun D σ H ⟨F, env, K, ok, hw, clo⟩ => ?_
  obtain ⟨F', x0, ok0⟩ := ok.frzL (is := itFz it)
  refine ⟨F', _, _, ok0, fun i hi r er => frzL_no hi er, hw, fun items e1 ⟨I, I0, Is, Ie⟩ J F1 H1 xt1 jr ok1 => ?_⟩
  have s1 : Same F F1 := x0.sub.trans xt1.sub
  refine ⟨fun i m σ' H' => m = items.length - i ∧ i ≤ items.length ∧ ∃ F' e', Same F1 F' ∧ EnvOk X.w F0 H0 F' H' e' σ' ∧ I i e', ⟨items.length, by simp, Nat.zero_le _, F1, e1, Same.refl _, ok1, I0⟩, ?_⟩
  rintro i m σ' H' ⟨rfl, hi, F2, e2, s2, ok2, hI⟩
  have sH : Same F1 H' := s2.trans ok2.sub
  by_cases hlt : i < items.length
  · refine .inr ⟨jr.go i _ H' (List.getElem?_eq_getElem hlt) sH, fun σ3 H3 => ∃ F3 e3, Same F1 F3 ∧ EnvOk X.w F0 H0 F3 H3 e3 σ3 ∧ I (i + 1) e3, fun σ3 H3 q => ⟨items.length - (i + 1), by omega, rfl, hlt, q⟩, fun x H3 hy => ?_⟩
    obtain ⟨sy, hy⟩ := jr.yld i _ x H' H3 (List.getElem?_eq_getElem hlt) sH hy
    obtain ⟨F3, f1, f2, f3, rx⟩ := hy F2 s2 ok2.sub
    have ok3 := ok2.grow f1 f2 sy f3
    refine hg.go ok3 rx (Is i _ e2 (List.getElem?_eq_getElem hlt) hI) fun e4 σ4 h4 l4 => ⟨F3, e4, _, l4.ok, h4, ?_, ?_, ?_, clo.rt⟩
    · exact fun e5 h σ5 F5 H5 s5 ok5 => ⟨F5, e5, s2.trans (f1.trans s5), ok5, h⟩
    · exact fun e5 h σ5 F5 H5 s5 ok5 => clo.nx e5 h σ5 F5 H5 (s1.trans (s2.trans (f1.trans s5))) ok5
    · exact fun e5 h σ5 F5 H5 s5 ok5 => ⟨F5, e5, s2.trans (f1.trans s5), ok5, h⟩
  · have e : i = items.length := by omega
    subst e
    exact .inl ⟨jr.stop H' sH, clo.nx e2 (Ie e2 hI) σ' F2 H' (s1.trans s2) ok2⟩

/-! ### stores -/
theorem PSet.or {X : Cx} {t t' : TSet} (h : PSet X t) (h' : PSet X t') : PSet X (fun o i v H Q => t o i v H Q ∨ t' o i v H Q) := by
  intro pins s σ H o i v ov iv u Q I r1 r2 r3 q
  rcases q with q | q
  · exact h pins s σ H o i v ov iv u Q I r1 r2 r3 q
  · exact h' pins s σ H o i v ov iv u Q I r1 r2 r3 q
def rSetD (X : Cx) : TSet := fun o i v H Q => ∃ F ks vs d dv p, Same F H ∧ o = .ref p ∧ F p = none ∧ RepTop X.w F H p (.dct ks vs) ∧ KeyOk ks d ∧ ks.length < sizeLine ∧ Rep X.w F i d ∧ Rep X.w F v dv ∧
  ∀ o', RepTop X.w F (upd H p (dictO o' p)) p (.dct (dputK ks d) (dputV ks vs d dv)) → Q (upd H p (dictO o' p))
theorem set_dct (hr : Room k X.A) : PSet X (rSetD X) := by
  intro pins s σ H o i v ov iv u Q I r1 r2 r3 ⟨F, ks, vs, d, dv, p, sF, e, hp, t, ko, hz, ri, rv, q⟩
  subst e
  cases (show ov = Value.ref p from r1)
  exact dd_set (units16 hr) I sF t ko hz ri r2 rv r3 hp fun o' s' I' t' => ⟨_, I', q o' t'⟩
theorem cs_setIx {i : Nat} {x : Str} {px ip : Pos} {ki : Expr} {kx ex : Ex} (C : Cok X N G k sc) (hN : N[i]? = some x) (hv : Vis sc x) (hd : (x == ("__debug__" : Str)) = false) (hcd : (x == ("__classdict__" : Str)) = false)
    (hk : PE X ki (tB X.w G F0 H0 kx)) (he : PE X e (tE X.w G F0 H0 ex)) (hs : swapsWithSole [.Subscript (.Name x px) ki ip] e pos.line X.env = pure false) (hw : swappedStores [.Subscript (.Name x px) ki ip] e X.env = pure none)
    (ha : ∀ v, assign (.Subscript (.Name x px) ki ip) X.env v = (do
      let ov ← holding [v] (eval (.Name x px) X.env)
      let iv ← holding [v, ov] (eval ki X.env)
      standAt ip
      holding [v, ov, iv] (setItem ov iv v)
      release [v, ov, iv] [])) : PS X (.Assign [.Subscript (.Name x px) ki ip] e pos) (tCm X.w G F0 H0 (.setIx i kx ex)) := by
  have hvar := pe_var (X := X) (i := i) (x := x) (pos := px) (by rw [C.nm]; exact hN) (by rw [C.scp]; exact hv) hd hcd
  refine (ps_asg he (pg_sub hvar hk (PSet.or set_list (set_dct C.room)) ha) hs hw rfl).imp fun D σ H ⟨F, env, K, ok, hw, clo⟩ => ?_
  have hw : wE G EF ex env fun r e1 => (∃ r0, e1[i]? = some (some r0)) ∧ bor kx (wE G EF kx) e1 fun y e2 => (match e2[i]? with
    | some (some (true, .lst ds)) => (match y with
      | .int n => ∃ j, ixN ds.length n = some j ∧ K.nx (e2.set i (some (true, .lst (ds.set j r.2))))
      | _ => False)
    | some (some (true, .dct ks vs)) => KeyOk ks y ∧ ks.length < sizeLine ∧ K.nx (e2.set i (some (true, .dct (dputK ks y) (dputV ks vs y r.2))))
    | _ => False) := hw
  refine ⟨F, env, _, ok, hw, fun r e1 ⟨⟨r0, er0⟩, h1⟩ v F1 H1 xt1 rp1 ok1 => ?_⟩
  obtain ⟨F1', xt1', rp1', ok1'⟩ := share ok1 rp1 ok.same ok.refs xt1
  -- the slot stays as it is
  have key : ∃ ov, σ[i]? = some (some ov) ∧ tB X.w G F0 H0 kx σ H1 fun y H2 => rSetL ov y v H2 (fun H3 => D.nx σ H3) ∨ rSetD X ov y v H2 (fun H3 => D.nx σ H3) := by
    have hsl : ∃ ov, σ[i]? = some (some ov) := by
      obtain ⟨ov, h, _⟩ := ok1.slot i _ er0
      exact ⟨ov, h⟩
    obtain ⟨ov, eov⟩ := hsl
    refine ⟨ov, eov, F1', e1, _, ok1', h1, fun y e2 h2 u F2 H2 xt2 rp2 ok2 => ?_⟩
    have rv : Rep X.w F2 v r.2 := rp1'.mono xt2.sub
    split at h2
    · rename_i ds er
      split at h2
      · rename_i n
        obtain ⟨j, hj, hK⟩ := h2
        obtain ⟨ov', e0, rp⟩ := ok2.slot i _ er
        rw [eov] at e0; cases e0
        unfold RepR at rp
        rw [if_pos rfl] at rp
        obtain ⟨p, ep, p1, p2, xs, hx, rxs⟩ := rp
        subst ep
        cases rp2.int
        refine .inl ⟨p, xs, n, j, rfl, rfl, hx, by rw [rxs.length]; exact hj, ?_⟩
        exact clo.nx _ hK σ F2 _ (xt1'.sub.trans xt2.sub) (ok2.write er eov ⟨_, upd_same, rxs.set rv j⟩)
      · exact h2.elim
    · rename_i ks vs er
      obtain ⟨ko, hz, hK⟩ := h2
      obtain ⟨ov', e0, rp⟩ := ok2.slot i _ er
      rw [eov] at e0; cases e0
      unfold RepR at rp
      rw [if_pos rfl] at rp
      obtain ⟨p, ep, p1, p2, t⟩ := rp
      subst ep
      exact .inr ⟨F2, ks, vs, y, r.2, p, ok2.sub, rfl, p1, t, ko, hz, rp2.key ko.2.1, rv, fun o' t' => clo.nx _ hK σ F2 _ (xt1'.sub.trans xt2.sub) (ok2.write er eov t')⟩
    · exact h2.elim
  exact key

theorem cs_app {i : Nat} {x : Str} {px ap cp : Pos} {ex : Ex} (C : Cok X N G k sc) (hN : N[i]? = some x) (hv : Vis sc x) (hd : (x == ("__debug__" : Str)) = false) (hcd : (x == ("__classdict__" : Str)) = false)
    (he : PE X e (tE X.w G F0 H0 ex)) (hs : NoStar e) (hline : (ap.endLine == cp.line) = true) : PS X (.Expr (.Call (.Attribute (.Name x px) "append" ap) [e] [] cp) pos) (tCm X.w G F0 H0 (.app i ex)) := by
  have hvar := pe_var (X := X) (i := i) (x := x) (pos := px) (by rw [C.nm]; exact hN) (by rw [C.scp]; exact hv) hd hcd
  refine (ps_expr (pe_bm PySem.F.plainAttrs_list PySem.F.slot_list_append PySem.F.type_list_append mt_append hvar (pa_cons he pa_nil (hs [] X.env)) rfl (by rw [hs [] X.env]; rfl) hline (hs [] X.env) rfl) rfl).imp fun D σ H ⟨F, env, K, ok, hw, clo⟩ => ?_
  have hw : (match env[i]? with
    | some (some (true, .lst ds)) => wE G EF ex env fun r e1 => e1[i]? = some (some (true, .lst ds)) ∧ ds.length < sizeLine ∧ K.nx (e1.set i (some (true, .lst (ds ++ [r.2]))))
    | _ => False) := hw
  split at hw
  · rename_i ds er
    obtain ⟨ov, eov, rp⟩ := ok.slot i _ er
    unfold RepR at rp
    rw [if_pos rfl] at rp
    obtain ⟨p, ep, p1, p2, xs, hx, rxs⟩ := rp
    subst ep
    refine ⟨.ref p, eov, .inl ⟨rfl, xs, .inl (.inl hx)⟩, F, env, _, ok, hw, fun r e1 ⟨er1, hz, hK⟩ v F1 H1 xt1 rp1 ok1 => ?_⟩
    obtain ⟨F1', xt1', rp1', ok1'⟩ := share ok1 rp1 ok.same ok.refs xt1
    obtain ⟨ov', e0, rp⟩ := ok1'.slot i _ er1
    rw [eov] at e0; cases e0
    unfold RepR at rp
    rw [if_pos rfl] at rp
    obtain ⟨p', ep, p1', p2', xs', hx', rxs'⟩ := rp
    cases ep
    refine ⟨p, xs', v, rfl, rfl, hx', by rw [rxs'.length]; exact hz, ?_⟩
    exact clo.nx _ hK σ F1' _ xt1'.sub (ok1'.write er1 eov ⟨_, upd_same, rxs'.append (.cons rp1' .nil)⟩)
  · exact hw.elim
end
end Vi
set_option Elab.async false
set_option linter.all false
set_option maxRecDepth 100000
/-! ViL: that a text is a term of the small language. -/
namespace Vi
open PySem PySem.Spec PyProof.Rows L2

def visB (sc : Scope) (x : Str) : Bool := match sc.names.lookup x with
  | some .local => true
  | some .cell => true
  | some .free => true
  | _ => false
def glB (sc : Scope) (x : Str) : Bool := match sc.names.lookup x with
  | some .globalImplicit => true
  | _ => false
def locB (sc : Scope) (x : Str) : Bool := match sc.names.lookup x with
  | some .local => true
  | some .cell => true
  | _ => false
theorem visB_ok {sc : Scope} {x : Str} (h : visB sc x = true) : Vis sc x := by
  unfold visB at h
  split at h
  · rename_i e; exact .inl e
  · rename_i e; exact .inr (.inl e)
  · rename_i e; exact .inr (.inr e)
  · cases h
theorem glB_ok {sc : Scope} {x : Str} (h : glB sc x = true) : sc.names.lookup x = some .globalImplicit := by
  unfold glB at h
  split at h
  · rename_i e; exact e
  · cases h
theorem locB_ok {sc : Scope} {x : Str} (h : locB sc x = true) : Loc sc x := by
  unfold locB at h
  split at h
  · rename_i e; exact .inl e
  · rename_i e; exact .inr e
  · cases h
def notDbg (x : Str) : Bool := !(x == ("__debug__" : Str)) && !(x == ("__classdict__" : Str)) && decide (x ≠ ("__name__" : Str))
theorem notDbg_ok {x : Str} (h : notDbg x = true) : (x == ("__debug__" : Str)) = false ∧ (x == ("__classdict__" : Str)) = false ∧ x ≠ "__name__" := by
  unfold notDbg at h
  simp only [Bool.and_eq_true, Bool.not_eq_true', decide_eq_true_eq] at h
  exact ⟨h.1.1, h.1.2, h.2⟩
/-- a name that is read, in slot i -/
def nmB (N : List Str) (sc : Scope) (i : Nat) (x : Str) : Bool := decide (N[i]? = some x) && visB sc x && notDbg x
/-- the built-in types that isinstance is asked of -/
def tyT : List (Str × String) := [("int", "int"), ("list", "list"), ("tuple", "tuple"), ("bool", "bool"), ("str", "str"), ("dict", "dict")]
def tyB (sc : Scope) (T : Str) (t : String) : Bool := glB sc T && tyT.any (fun q => decide (q.1 = T) && decide (q.2 = t))
/-- an expression that is no slice, no star .. -/
def plainI : Expr → Bool
  | .Slice .. => false
  | _ => true
def noStarB : Expr → Bool
  | .Starred .. => false
  | _ => true
def notComp : Expr → Bool
  | .ListComp .. => false
  | .SetComp .. => false
  | .DictComp .. => false
  | _ => true
def notTup : Expr → Bool
  | .Tuple .. => false
  | _ => true
def notSet : Expr → Bool
  | .Set .. => false
  | _ => true
/-- a test by its value's truth -/
def plainT : Expr → Bool
  | .UnaryOp .. => false
  | .BoolOp .. => false
  | .IfExp .. => false
  | .Compare .. => false
  | _ => true
def notCall : Expr → Bool
  | .Call .. => false
  | _ => true
def ownOf : Tg → Expr → List (Str × Nat)
  | .nm i, .Name x _ => [(x, i)]
  | .tp is, .Tuple es _ _ => (es.map fun e => match e with | .Name x _ => x | _ => "").zip is
  | _, _ => []
/-- names as targets -/
def chkNms (N : List Str) (ok : Str → Bool) : List Nat → List Expr → Bool
  | [], [] => true
  | i :: is, e :: es => (match e with
    | .Name x _ => decide (N[i]? = some x) && ok x && chkNms N ok is es
    | _ => false)
  | _, _ => false
def chkTg (N : List Str) (ok : Str → Bool) (t : Tg) (e : Expr) : Bool :=
  match t with
  | .nm i => (match e with
    | .Name x _ => decide (N[i]? = some x) && ok x
    | _ => false)
  | .tp is => (match e with
    | .Tuple es _ _ => chkNms N ok is es
    | _ => false)
def chkTys (sc : Scope) : List String → List Expr → Bool
  | [], [] => true
  | t :: ts, e :: es => (match e with
    | .Name T _ => tyB sc T t && notDbg T && chkTys sc ts es
    | _ => false)
  | _, _ => false

mutual
def chkE (N : List Str) : Nat → Scope → Ex → Expr → Bool
  | 0, _, _, _ => false
  | n + 1, sc, ex, e => noStarB e && (match ex with
    | .var i => (match e with | .Name x _ => nmB N sc i x | _ => false)
    | .non => (match e with | .Constant .none _ _ => true | _ => false)
    | .bl b => (match e with | .Constant (.bool c) _ _ => decide (b = c) | _ => false)
    | .int i => (match e with | .Constant (.int j) _ _ => decide (i = j) | _ => false)
    | .str s => (match e with | .Constant (.str t) _ _ => decide (s = t) | _ => false)
    | .tup es => (match e with | .Tuple xs _ _ => chkEs N n sc es xs | _ => false)
    | .lst es => (match e with | .List xs _ => chkEs N n sc es xs | _ => false)
    | .bin o a b => (match e with | .BinOp x p y _ => decide (p = opOf o) && chkE N n sc a x && chkE N n sc b y | _ => false)
    | .cmp o a b => (match e with | .Compare x [p] [y] _ => decide (p = coOf o) && !behindInMarks p y && chkE N n sc a x && chkE N n sc b y | _ => false)
    | .chain o o' a b c => (match e with | .Compare x [p, p'] [y, z] _ => decide (p = coOf o) && decide (p' = coOf o') && !lastMarks [p, p'] [y, z] && chkE N n sc a x && chkE N n sc b y && chkE N n sc c z | _ => false)
    | .neg a => (match e with | .UnaryOp .USub x _ => chkE N n sc a x | _ => false)
    | .notv a => (match e with | .UnaryOp .Not x _ => chkE N n sc a x | _ => false)
    | .andv a b => (match e with | .BoolOp .And (x :: y :: r) p => chkE N n sc a x && (match r with | [] => chkE N n sc b y | _ => chkE N n sc b (.BoolOp .And (y :: r) p)) | _ => false)
    | .orv a b => (match e with | .BoolOp .Or (x :: y :: r) p => chkE N n sc a x && (match r with | [] => chkE N n sc b y | _ => chkE N n sc b (.BoolOp .Or (y :: r) p)) | _ => false)
    | .ife t a b => (match e with | .IfExp c x y _ => chkT N n sc t c && chkE N n sc a x && chkE N n sc b y | _ => false)
    | .idx a i => (match e with | .Subscript x y _ => plainI y && chkE N n sc a x && chkE N n sc i y | _ => false)
    | .slc a lo hi => (match e with | .Subscript x (.Slice l h none _) _ => chkE N n sc a x && chkO N n sc lo l && chkO N n sc hi h | _ => false)
    | .call f es => (match e with | .Call (.Name g _) (x :: xs) [] _ => decide (f = g) && glB sc g && notDbg g && chkEs N n sc es (x :: xs) | _ => false)
    | .fn1 f a => (match e with | .Call (.Name g _) [x] [] _ => decide (g = f1n f) && glB sc g && chkE N n sc a x | _ => false)
    | .fn2 f a b => (match e with | .Call (.Name g _) [x, y] [] _ => decide (g = f2n f) && glB sc g && chkE N n sc a x && chkE N n sc b y | _ => false)
    | .isi a t => (match e with | .Call (.Name g _) [x, .Name T _] [] _ => decide (g = ("isinstance" : Str)) && glB sc g && tyB sc T t && notDbg T && chkE N n sc a x | _ => false)
    | .isiT a ts => (match e with | .Call (.Name g _) [x, .Tuple es _ _] [] _ => decide (g = ("isinstance" : Str)) && glB sc g && chkTys sc ts es && decide (ts.length ≤ 1000) && chkE N n sc a x | _ => false)
    | .lc _ el t it cond => (match e with
      | .ListComp elt [⟨tg, iter, ifs, z⟩] scope _ => decide (z = 0) && blkC N sc scope (ownOf t tg) && decide ((ownOf t tg).map (·.2) = t.slots) && chkTg N (fun x => locB scope x) t tg && chkI N n sc it iter && chkTs N n (relS scope sc) cond ifs && chkE N n (relS scope sc) el elt
      | _ => false)
    | .dc _ k v t it => (match e with
      | .DictComp kx vx [⟨tg, iter, [], z⟩] scope _ => decide (z = 0) && blkC N sc scope (ownOf t tg) && decide ((ownOf t tg).map (·.2) = t.slots) && chkTg N (fun x => locB scope x) t tg && chkI N n sc it iter && chkE N n (relS scope sc) k kx && chkE N n (relS scope sc) v vx
      | _ => false)
    | .dnew => (match e with | .Dict [] [] _ => true | _ => false)
    | .dnew1 k v => (match e with | .Dict [some a] [b] _ => chkE N n sc k a && chkE N n sc v b | _ => false))
def chkEs (N : List Str) : Nat → Scope → Exs → List Expr → Bool
  | 0, _, _, _ => false
  | n + 1, sc, ex, e => match ex with
    | .nil => (match e with | [] => true | _ => false)
    | .cons a es => (match e with | x :: xs => chkE N n sc a x && chkEs N n sc es xs | _ => false)
def chkO (N : List Str) : Nat → Scope → Ox → Option Expr → Bool
  | 0, _, _, _ => false
  | n + 1, sc, ex, e => match ex with
    | .none => (match e with | none => true | _ => false)
    | .some a => (match e with | some x => chkE N n sc a x | _ => false)
def chkT (N : List Str) : Nat → Scope → Tx → Expr → Bool
  | 0, _, _, _ => false
  | n + 1, sc, t, e => match t with
    | .val a => if plainT e = true then chkE N n sc a e else (match a with
      | .cmp o a b => (match e with | .Compare x [p] [y] _ => decide (p = coOf o) && !behindInMarks p y && chkE N n sc a x && chkE N n sc b y | _ => false)
      | .chain o o' a b c => (match e with | .Compare x [p, p'] [y, z] _ => decide (p = coOf o) && decide (p' = coOf o') && !lastMarks [p, p'] [y, z] && chkE N n sc a x && chkE N n sc b y && chkE N n sc c z | _ => false)
      | _ => false)
    | .not u => (match e with | .UnaryOp .Not x _ => chkT N n sc u x | _ => false)
    | .and a b => (match e with | .BoolOp .And (x :: y :: r) p => chkT N n sc a x && (match r with | [] => chkT N n sc b y | _ => chkT N n sc b (.BoolOp .And (y :: r) p)) | _ => false)
    | .or a b => (match e with | .BoolOp .Or (x :: y :: r) p => chkT N n sc a x && (match r with | [] => chkT N n sc b y | _ => chkT N n sc b (.BoolOp .Or (y :: r) p)) | _ => false)
def chkTs (N : List Str) : Nat → Scope → Txs → List Expr → Bool
  | 0, _, _, _ => false
  | n + 1, sc, t, e => match t with
    | .none => (match e with | [] => true | _ => false)
    | .one u => (match e with | [x] => chkT N n sc u x | _ => false)
def chkI (N : List Str) : Nat → Scope → Itx → Expr → Bool
  | 0, _, _, _ => false
  | n + 1, sc, it, e => match it with
    | .seq a => chkE N n sc a e
    | .rng1 a => (match e with | .Call (.Name g _) [x] [] _ => decide (g = ("range" : Str)) && glB sc g && chkE N n sc a x | _ => false)
    | .rng2 a b => (match e with | .Call (.Name g _) [x, y] [] _ => decide (g = ("range" : Str)) && glB sc g && chkE N n sc a x && chkE N n sc b y | _ => false)
    | .vals a => (match e with | .Call (.Attribute x m ap) [] [] cp => decide (m = ("values" : Str)) && (ap.endLine == cp.line) && notCall x && chkE N n sc a x | _ => false)
end

/-! ### what it gives -/
theorem noStar_ok {e : Expr} (h : noStarB e = true) : NoStar e := fun es env => by cases e <;> first | rfl | cases h
theorem chkE_star {N : List Str} {n : Nat} {sc : Scope} {ex : Ex} {e : Expr} (h : chkE N n sc ex e = true) : NoStar e := by
  cases n with
  | zero => cases h
  | succ n =>
    unfold chkE at h
    exact noStar_ok (Bool.and_eq_true_iff.mp h).1
theorem chkEs_star {N : List Str} : ∀ {n : Nat} {sc : Scope} {ex : Exs} {es : List Expr}, chkEs N n sc ex es = true → ∀ (pos : Pos) (env : Env), (backTo pos (starEach es env)).any (·.1) = false
  | 0, _, _, _, h, _, _ => by cases h
  | n + 1, sc, .nil, [], h, pos, env => rfl
  | n + 1, sc, .nil, _ :: _, h, pos, env => by cases h
  | n + 1, sc, .cons a es, [], h, pos, env => by cases h
  | n + 1, sc, .cons a es, x :: xs, h, pos, env => by
    simp only [chkEs, Bool.and_eq_true] at h
    rw [chkE_star h.1 xs env]
    have ih := chkEs_star h.2 pos env
    show (false || (backTo pos (starEach xs env)).any (·.1)) = false
    rw [ih]; rfl
theorem plainI_ok {e : Expr} (h : plainI e = true) : PlainIx e := fun o i => by cases e <;> first | rfl | cases h
theorem plainT_ok {e : Expr} (h : plainT e = true) (env : Env) : ∀ whole, isTrue e env whole = (do let v ← whole; standAt e.pos; holding [v] (truthy v)) := fun w => by cases e <;> first | rfl | cases h
theorem notComp_ok {e : Expr} (h : notComp e = true) {t : Option Expr} {l : Nat} {env : Env} : swapsWith e t l env = pure false := by cases e <;> first | rfl | cases h
theorem notSet_ok {e : Expr} (h : notSet e = true) {env : Env} (x : Value) : foldedSetIterable e env x = pure x := by cases e <;> first | rfl | cases h
theorem notCall_ok {e : Expr} (h : notCall e = true) {m : Str} {env : Env} : attributeBase e m env (eval e env) = eval e env := by cases e <;> first | rfl | cases h
theorem tyB_ok {sc : Scope} {T : Str} {t : String} (h : tyB sc T t = true) : sc.names.lookup T = some .globalImplicit ∧ bootBuiltins T = some (.type t) ∧ T ∈ bnames := by
  unfold tyB at h
  rw [Bool.and_eq_true] at h
  refine ⟨glB_ok h.1, ?_⟩
  have h2 := h.2
  simp only [tyT, List.any_cons, List.any_nil, Bool.or_false, Bool.or_eq_true, Bool.and_eq_true, decide_eq_true_eq] at h2
  rcases h2 with ⟨e1, e2⟩ | ⟨e1, e2⟩ | ⟨e1, e2⟩ | ⟨e1, e2⟩ | ⟨e1, e2⟩ | ⟨e1, e2⟩ <;> (subst e1 e2; exact ⟨by decide +kernel, by simp [bnames]⟩)
end Vi
set_option Elab.async false
set_option linter.all false
set_option maxRecDepth 100000
/-! ViM: the checked text means what its term means. -/
namespace Vi
open PySem PySem.Spec PyProof.Rows L2
section
variable {N : List Str} {G : Str → Option (Nat × Ctr)} {k : Nat} {F0 H0 : Hp}
theorem nmB_ok {sc : Scope} {i : Nat} {x : Str} (h : nmB N sc i x = true) : N[i]? = some x ∧ Vis sc x ∧ (x == ("__debug__" : Str)) = false ∧ (x == ("__classdict__" : Str)) = false := by
  unfold nmB at h
  simp only [Bool.and_eq_true, decide_eq_true_eq] at h
  obtain ⟨⟨h1, h2⟩, h3⟩ := h
  obtain ⟨a, b, c⟩ := notDbg_ok h3
  exact ⟨h1, visB_ok h2, a, b⟩
theorem chk_var {n : Nat} {sc : Scope} {i : Nat} {e : Expr} (h : chkE N n sc (.var i) e = true) : ∃ x p, e = .Name x p ∧ nmB N sc i x = true := by
  cases n with
  | zero => cases h
  | succ n =>
    unfold chkE at h
    have h := (Bool.and_eq_true_iff.mp h).2
    simp only at h
    split at h
    · exact ⟨_, _, rfl, h⟩
    · cases h
/-- for one depth -/
structure Snd (N : List Str) (G : Str → Option (Nat × Ctr)) (k : Nat) (F0 H0 : Hp) (n : Nat) : Prop where
  e : ∀ (X : Cx) (sc : Scope), Cok X N G k sc → ∀ ex e, chkE N n sc ex e = true → PE X e (tE X.w G F0 H0 ex)
  es : ∀ (X : Cx) (sc : Scope), Cok X N G k sc → ∀ ex e, chkEs N n sc ex e = true → PA X e (tEs X.w G F0 H0 ex)
  o : ∀ (X : Cx) (sc : Scope), Cok X N G k sc → ∀ ex e, chkO N n sc ex e = true → PO X e (tOx X.w G F0 H0 ex)
  t : ∀ (X : Cx) (sc : Scope), Cok X N G k sc → ∀ t e, chkT N n sc t e = true → PT X e (tTx X.w G F0 H0 t) ∧ ∀ op es p, e = .BoolOp op es p → PW X e (tTx X.w G F0 H0 t)
  ts : ∀ (X : Cx) (sc : Scope), Cok X N G k sc → ∀ t e, chkTs N n sc t e = true → PTs X e (tTxs X.w G F0 H0 t)
  i : ∀ (X : Cx) (sc : Scope), Cok X N G k sc → ∀ tg it e, chkI N n sc it e = true → PI X tg e (tIt X.w G F0 H0 it)
  iF : ∀ (X : Cx) (sc : Scope), Cok X N G k sc → ∀ tg it e, chkI N n sc it e = true → PI X tg e (tItF X.w G F0 H0 it)
theorem Snd.b {n : Nat} (S : Snd N G k F0 H0 n) (X : Cx) (sc : Scope) (C : Cok X N G k sc) {ex : Ex} {e : Expr} (h : chkE N n sc ex e = true) : PE X e (tB X.w G F0 H0 ex) := by
  cases hv : isVar ex with
  | false => exact sb_of (S.e X sc C ex e h) hv
  | true =>
    cases ex with
    | var i =>
      obtain ⟨x, p, rfl, hn⟩ := chk_var h
      obtain ⟨a, b, c, d⟩ := nmB_ok hn
      exact sb_var C a b c d
    | _ => cases hv
theorem Snd.f {n : Nat} (S : Snd N G k F0 H0 n) (X : Cx) (sc : Scope) (C : Cok X N G k sc) {ex : Ex} {e : Expr} (h : chkE N n sc ex e = true) : PE X e (tF X.w G F0 H0 ex) := by
  cases hv : isVar ex with
  | false => exact sf_of (S.e X sc C ex e h) hv
  | true =>
    cases ex with
    | var i =>
      obtain ⟨x, p, rfl, hn⟩ := chk_var h
      obtain ⟨a, b, c, d⟩ := nmB_ok hn
      exact sf_var C a b c d
    | _ => cases hv
theorem nms_ok {X : Cx} {ok : Str → Bool} (hnm : X.N = N) (hnd : N.Nodup) (hok : ∀ x, ok x = true → Loc X.env.scope x ∧ (X.fn x = true ∨ X.env.scope.names.lookup x = some .local)) : ∀ {is : List Nat} {es : List Expr}, chkNms N ok is es = true → NmsOk X N is es
  | [], [], _ => nms_nil
  | [], _ :: _, h => by cases h
  | _ :: _, [], h => by cases h
  | i :: is, e :: es, h => by
    cases e with
    | Name x p =>
      simp only [chkNms, Bool.and_eq_true, decide_eq_true_eq] at h
      obtain ⟨⟨h1, h2⟩, h3⟩ := h
      exact nms_cons hnm hnd h1 (hok x h2).1 (hok x h2).2 (nms_ok hnm hnd hok h3)
    | _ => cases h
/-- a checked target -/
def gTg (K : PySem.W.Frag) : Tg → TG
  | .nm i => gName i
  | .tp is => gTup K is.length (gNames is)
theorem tg_ok {X : Cx} {ok : Str → Bool} {t : Tg} {e : Expr} (hc : X.calm = true) (hnm : X.N = N) (hnd : N.Nodup) (hok : ∀ x, ok x = true → Loc X.env.scope x ∧ (X.fn x = true ∨ X.env.scope.names.lookup x = some .local)) (h : chkTg N ok t e = true) : TgOk X F0 H0 e t (gTg X.K t) := by
  cases t with
  | nm i =>
    cases e with
    | Name x p =>
      simp only [chkTg, Bool.and_eq_true, decide_eq_true_eq] at h
      exact tg_nm hnm hnd h.1 (hok x h.2).1 (hok x h.2).2
    | _ => cases h
  | tp is =>
    cases e with
    | Tuple es kk p => exact tg_tp hc (nms_ok hnm hnd hok h)
    | _ => cases h
theorem st_ok {Y : Cx} {scope : Scope} (S : Stores Y scope) (x : Str) (h : locB scope x = true) : Loc Y.env.scope x ∧ (Y.fn x = true ∨ Y.env.scope.names.lookup x = some .local) := by
  rcases locB_ok h with h | h
  · exact ⟨.inl (S.loc x h), .inr (S.loc x h)⟩
  · exact ⟨.inr (S.cell x h).1, .inl (S.cell x h).2⟩
theorem PE.never {X : Cx} {e : Expr} {t : TE} (h : ∀ σ H Q, ¬ t σ H Q) : PE X e t := ⟨fun _ _ _ _ _ _ q => absurd q (h _ _ _)⟩
theorem tys_ok {X : Cx} {sc : Scope} (C : Cok X N G k sc) : ∀ {ts : List String} {es : List Expr}, chkTys sc ts es = true → ∃ (Ts : List Str) (ps : List Pos), es = (Ts.zip ps).map (fun q => .Name q.1 q.2) ∧ Ts.length = ps.length ∧ Ts.map bootBuiltins = ts.map (fun t => some (.type t)) ∧
    ∀ T ∈ Ts, sc.names.lookup T = some .globalImplicit ∧ (X.mg T = none) ∧ T ≠ "__name__" ∧ (T == ("__debug__" : Str)) = false
  | [], [], _ => ⟨[], [], rfl, rfl, rfl, fun T h => (by simp at h)⟩
  | [], _ :: _, h => by cases h
  | _ :: _, [], h => by cases h
  | t :: ts, e :: es, h => by
    cases e with
    | Name T p =>
      simp only [chkTys, Bool.and_eq_true] at h
      obtain ⟨⟨h1, h2⟩, h3⟩ := h
      obtain ⟨Ts, ps, e1, e2, e3, e4⟩ := tys_ok C h3
      obtain ⟨a, b, c⟩ := tyB_ok h1
      obtain ⟨d1, d2, d3⟩ := notDbg_ok h2
      refine ⟨T :: Ts, p :: ps, by rw [e1]; rfl, by simp [e2], by simp [e3, b], fun T' hT => ?_⟩
      rcases List.mem_cons.mp hT with rfl | hT
      · exact ⟨a, C.free _ c, d3, d1⟩
      · exact e4 T' hT
    | _ => cases h
theorem lc_ok {n : Nat} (S : Snd N G k F0 H0 n) (X : Cx) (sc : Scope) (C : Cok X N G k sc) {t : Tg} {it : Itx} {cond : Txs} {tg iter : Expr} {ifs : List Expr} {scope : Scope} (h1 : blkC N sc scope (ownOf t tg) = true) (h2 : (ownOf t tg).map (·.2) = t.slots) (h3 : chkTg N (fun x => locB scope x) t tg = true)
    (h4 : chkI N n sc it iter = true) (h5 : chkTs N n (relS scope sc) cond ifs = true) (hs : ∀ x, foldedSetIterable iter X.env x = pure x) : LcOk X N G k sc F0 H0 scope (ownOf t tg) tg iter ifs t it cond (gTg X.K t) where
  C := C
  bk := h1
  own := h2
  hi := S.i X sc C tg it iter h4
  hg := fun Y CY SY ew eK => by
    have := tg_ok (F0 := F0) (H0 := H0) (X := Y) CY.calm CY.nm CY.nd (fun x hx => st_ok SY x hx) h3
    rw [eK] at this; exact this
  ht := fun Y CY ew => S.ts Y _ CY cond ifs h5
  hs := hs
theorem chkI_set {n : Nat} {sc : Scope} {it : Itx} {e : Expr} (h : chkI N n sc it e = true) : notSet e = true := by
  cases n with
  | zero => cases h
  | succ n =>
    cases e with
    | Set es kk p =>
      cases it with
      | seq a =>
        simp only [chkI] at h
        cases n with
        | zero => cases h
        | succ n => unfold chkE at h; cases a <;> simp [noStarB] at h
      | _ => simp [chkI] at h
    | _ => rfl

theorem chkEs_hd {n : Nat} {sc : Scope} {a : Ex} {es : Exs} {x : Expr} {xs : List Expr} (h : chkEs N n sc (.cons a es) (x :: xs) = true) : NoStar x ∧ ∀ pos env, (backTo pos (starEach xs env)).any (·.1) = false := by
  cases n with
  | zero => cases h
  | succ n =>
    simp only [chkEs, Bool.and_eq_true] at h
    exact ⟨chkE_star h.1, fun pos env => chkEs_star h.2 pos env⟩
theorem snd_e {n : Nat} (S : Snd N G k F0 H0 n) (X : Cx) (sc : Scope) (C : Cok X N G k sc) (ex : Ex) (e : Expr) (h : chkE N (n + 1) sc ex e = true) : PE X e (tE X.w G F0 H0 ex) := by
  unfold chkE at h
  obtain ⟨hst, h⟩ := Bool.and_eq_true_iff.mp h
  cases ex with
  | var i =>
    simp only at h
    split at h
    · obtain ⟨a, b, c, d⟩ := nmB_ok h
      exact se_var C a b c d
    · cases h
  | non =>
    simp only at h
    split at h
    · exact se_const pe_non (fun env P h => h) fun F => .non
    · cases h
  | bl b =>
    simp only at h
    split at h
    · have e := of_decide_eq_true h; subst e
      exact se_const pe_bl (fun env P h => h) fun F => .bl _
    · cases h
  | int b =>
    simp only at h
    split at h
    · have e := of_decide_eq_true h; subst e
      exact se_const pe_int (fun env P h => h) fun F => .int _
    · cases h
  | str b =>
    simp only at h
    split at h
    · have e := of_decide_eq_true h; subst e
      exact se_const pe_str (fun env P h => h) fun F => .str _
    · cases h
  | tup es =>
    simp only at h
    split at h
    · exact se_tup (S.es X sc C _ _ h)
    · cases h
  | lst es =>
    simp only at h
    split at h
    · exact se_lst (S.es X sc C _ _ h)
    · cases h
  | bin o a b =>
    simp only at h
    split at h
    · simp only [Bool.and_eq_true, decide_eq_true_eq] at h
      obtain ⟨⟨h1, h2⟩, h3⟩ := h
      subst h1
      exact se_bin o (S.b X sc C h2) (S.b X sc C h3)
    · cases h
  | cmp o a b =>
    simp only at h
    split at h
    · simp only [Bool.and_eq_true, decide_eq_true_eq, Bool.not_eq_true'] at h
      obtain ⟨⟨⟨h1, h2⟩, h3⟩, h4⟩ := h
      subst h1
      exact se_cmp o C.room (S.b X sc C h3) (S.b X sc C h4) h2
    · cases h
  | chain o o' a b c =>
    simp only at h
    split at h
    · simp only [Bool.and_eq_true, decide_eq_true_eq, Bool.not_eq_true'] at h
      obtain ⟨⟨⟨⟨⟨h1, h2⟩, h3⟩, h4⟩, h5⟩, h6⟩ := h
      subst h1 h2
      exact se_chain o o' C.room (S.b X sc C h4) (S.b X sc C h5) (S.b X sc C h6) h3
    · cases h
  | neg a =>
    simp only at h
    split at h
    · exact se_neg (S.b X sc C h)
    · cases h
  | notv a =>
    simp only at h
    split at h
    · exact se_notv (S.b X sc C h)
    · cases h
  | andv a b =>
    simp only at h
    split at h
    · rw [Bool.and_eq_true] at h
      obtain ⟨h1, h2⟩ := h
      split at h2
      · exact se_and (S.b X sc C h1) (pe_one (S.e X sc C _ _ h2))
      · exact se_and (S.b X sc C h1) (S.e X sc C _ _ h2)
    · cases h
  | orv a b =>
    simp only at h
    split at h
    · rw [Bool.and_eq_true] at h
      obtain ⟨h1, h2⟩ := h
      split at h2
      · exact se_or (S.b X sc C h1) (pe_one (S.e X sc C _ _ h2))
      · exact se_or (S.b X sc C h1) (S.e X sc C _ _ h2)
    · cases h
  | ife t a b =>
    simp only at h
    split at h
    · simp only [Bool.and_eq_true] at h
      exact se_ife (S.t X sc C _ _ h.1.1).1 (S.e X sc C _ _ h.1.2) (S.e X sc C _ _ h.2)
    · cases h
  | idx a i =>
    simp only at h
    split at h
    · simp only [Bool.and_eq_true] at h
      exact se_idx C.room (S.b X sc C h.1.2) (S.b X sc C h.2) (plainI_ok h.1.1)
    · cases h
  | slc a lo hi =>
    simp only at h
    split at h
    · simp only [Bool.and_eq_true] at h
      exact se_slc (S.b X sc C h.1.1) (S.o X sc C _ _ h.1.2) (S.o X sc C _ _ h.2)
    · cases h
  | call f es =>
    simp only at h
    split at h
    · simp only [Bool.and_eq_true, decide_eq_true_eq] at h
      obtain ⟨⟨⟨h1, h2⟩, h3⟩, h4⟩ := h
      subst h1
      cases hG : G f with
      | none =>
        refine PE.never fun σ H Q ⟨F, env, P, ok, hw, fin⟩ => ?_
        obtain ⟨c, hc, _⟩ := (hw : ∃ c, G f = some c ∧ wEs G EF es env fun ds e => ds.length = c.1 ∧ c.2 ds (fun r => P r e) fun x => EF x e)
        rw [hG] at hc; cases hc
      | some ct =>
        cases es with
        | nil => cases n <;> simp [chkEs] at h4
        | cons a es =>
          obtain ⟨s1, s2⟩ := chkEs_hd h4
          exact se_call C (glB_ok h2) (S.es X sc C _ _ h4) (notDbg_ok h3).1 s1 (fun env => s2 _ env) (by rw [hG]; rfl)
    · cases h
  | fn1 f a =>
    simp only at h
    split at h
    · simp only [Bool.and_eq_true, decide_eq_true_eq] at h
      obtain ⟨⟨h1, h2⟩, h3⟩ := h
      subst h1
      exact se_fn1 f C (glB_ok h2) (S.b X sc C h3) (chkE_star h3)
    · cases h
  | fn2 f a b =>
    simp only at h
    split at h
    · simp only [Bool.and_eq_true, decide_eq_true_eq] at h
      obtain ⟨⟨⟨h1, h2⟩, h3⟩, h4⟩ := h
      subst h1
      exact se_fn2 f C (glB_ok h2) (S.b X sc C h3) (S.b X sc C h4) (chkE_star h3) (chkE_star h4)
    · cases h
  | isi a t =>
    simp only at h
    split at h
    · simp only [Bool.and_eq_true, decide_eq_true_eq] at h
      obtain ⟨⟨⟨⟨h1, h2⟩, h3⟩, h4⟩, h5⟩ := h
      subst h1
      obtain ⟨a1, a2, a3⟩ := tyB_ok h3
      obtain ⟨d1, d2, d3⟩ := notDbg_ok h4
      exact se_isi C (glB_ok h2) a1 a2 (.inl a3) d3 d1 (S.b X sc C h5) (chkE_star h5)
    · cases h
  | isiT a ts =>
    simp only at h
    split at h
    · simp only [Bool.and_eq_true, decide_eq_true_eq] at h
      obtain ⟨⟨⟨⟨h1, h2⟩, h3⟩, h4⟩, h5⟩ := h
      subst h1
      obtain ⟨Ts, ps, e1, e2, e3, e4⟩ := tys_ok C h3
      subst e1
      exact se_isiT C (glB_ok h2) e2 e3 e4 h4 (S.b X sc C h5) (chkE_star h5)
    · cases h
  | lc fz el t it cond =>
    simp only at h
    split at h
    · simp only [Bool.and_eq_true, decide_eq_true_eq] at h
      obtain ⟨⟨⟨⟨⟨⟨h0, h1⟩, h2⟩, h3⟩, h4⟩, h5⟩, h6⟩ := h
      subst h0
      exact se_lc (lc_ok S X sc C h1 h2 h3 h4 h5 (fun x => notSet_ok (chkI_set h4) x)) fun Y CY ew => S.e Y _ CY _ _ h6
    · cases h
  | dc fz kx vx t it =>
    simp only at h
    split at h
    · simp only [Bool.and_eq_true, decide_eq_true_eq] at h
      obtain ⟨⟨⟨⟨⟨⟨h0, h1⟩, h2⟩, h3⟩, h4⟩, h5⟩, h6⟩ := h
      subst h0
      have hts : ∀ s, chkTs N n s .none [] = true := fun s => by
        cases n with
        | zero => cases h5
        | succ n => rfl
      exact se_dc (lc_ok S X sc C h1 h2 h3 h4 (hts _) (fun x => notSet_ok (chkI_set h4) x)) (fun Y CY ew => S.e Y _ CY _ _ h5) fun Y CY ew => S.e Y _ CY _ _ h6
    · cases h
  | dnew =>
    simp only at h
    split at h
    · exact se_dnew
    · cases h
  | dnew1 kx vx =>
    simp only at h
    split at h
    · rw [Bool.and_eq_true] at h
      exact se_dnew1 (S.e X sc C _ _ h.1) (S.e X sc C _ _ h.2)
    · cases h
theorem snd_t {n : Nat} (S : Snd N G k F0 H0 n) (X : Cx) (sc : Scope) (C : Cok X N G k sc) (t : Tx) (e : Expr) (h : chkT N (n + 1) sc t e = true) : PT X e (tTx X.w G F0 H0 t) ∧ ∀ op es p, e = .BoolOp op es p → PW X e (tTx X.w G F0 H0 t) := by
  cases t with
  | val a =>
    simp only [chkT] at h
    split at h
    · rename_i hp
      refine ⟨st_val (S.b X sc C h) (plainT_ok hp X.env), fun op es p ee => ?_⟩
      subst ee; cases hp
    · split at h
      · split at h
        · simp only [Bool.and_eq_true, decide_eq_true_eq, Bool.not_eq_true'] at h
          obtain ⟨⟨⟨h1, h2⟩, h3⟩, h4⟩ := h
          subst h1
          exact ⟨st_cmp _ C.room (S.b X sc C h3) (S.b X sc C h4) h2, fun op es p ee => by cases ee⟩
        · cases h
      · split at h
        · simp only [Bool.and_eq_true, decide_eq_true_eq, Bool.not_eq_true'] at h
          obtain ⟨⟨⟨⟨⟨h1, h2⟩, h3⟩, h4⟩, h5⟩, h6⟩ := h
          subst h1 h2
          exact ⟨st_chain _ _ C.room (S.b X sc C h4) (S.b X sc C h5) (S.b X sc C h6) h3, fun op es p ee => by cases ee⟩
        · cases h
      · cases h
  | not u =>
    simp only [chkT] at h
    split at h
    · exact ⟨st_not (S.t X sc C _ _ h).1, fun op es p ee => by cases ee⟩
    · cases h
  | and a b =>
    simp only [chkT] at h
    split at h
    · rw [Bool.and_eq_true] at h
      obtain ⟨h1, h2⟩ := h
      split at h2
      · exact ⟨(st_and (S.t X sc C _ _ h1).1 (st_and1 (S.t X sc C _ _ h2).1)).pt, fun _ _ _ _ => st_and (S.t X sc C _ _ h1).1 (st_and1 (S.t X sc C _ _ h2).1)⟩
      · exact ⟨(st_and (S.t X sc C _ _ h1).1 ((S.t X sc C _ _ h2).2 _ _ _ rfl)).pt, fun _ _ _ _ => st_and (S.t X sc C _ _ h1).1 ((S.t X sc C _ _ h2).2 _ _ _ rfl)⟩
    · cases h
  | or a b =>
    simp only [chkT] at h
    split at h
    · rw [Bool.and_eq_true] at h
      obtain ⟨h1, h2⟩ := h
      split at h2
      · exact ⟨(st_or (S.t X sc C _ _ h1).1 (st_or1 (S.t X sc C _ _ h2).1)).pt, fun _ _ _ _ => st_or (S.t X sc C _ _ h1).1 (st_or1 (S.t X sc C _ _ h2).1)⟩
      · exact ⟨(st_or (S.t X sc C _ _ h1).1 ((S.t X sc C _ _ h2).2 _ _ _ rfl)).pt, fun _ _ _ _ => st_or (S.t X sc C _ _ h1).1 ((S.t X sc C _ _ h2).2 _ _ _ rfl)⟩
    · cases h
theorem snd : ∀ n : Nat, Snd N G k F0 H0 n
  | 0 => by
    constructor
    · intro X sc C ex e h; simp [chkE] at h
    · intro X sc C ex e h; simp [chkEs] at h
    · intro X sc C ex e h; simp [chkO] at h
    · intro X sc C ex e h; simp [chkT] at h
    · intro X sc C ex e h; simp [chkTs] at h
    · intro X sc C tg ex e h; simp [chkI] at h
    · intro X sc C tg ex e h; simp [chkI] at h
  | n + 1 => by
    have S := snd n
    refine ⟨fun X sc C ex e h => snd_e S X sc C ex e h, fun X sc C ex e h => ?_, fun X sc C ex e h => ?_, fun X sc C t e h => snd_t S X sc C t e h, fun X sc C t e h => ?_, fun X sc C tg it e h => ?_, fun X sc C tg it e h => ?_⟩
    · cases ex with
      | nil =>
        cases e with
        | nil => exact sa_nil
        | cons _ _ => cases h
      | cons a es =>
        cases e with
        | nil => cases h
        | cons x xs =>
          simp only [chkEs, Bool.and_eq_true] at h
          exact sa_cons (S.e X sc C _ _ h.1) (S.es X sc C _ _ h.2) (chkE_star h.1 xs X.env)
    · cases ex with
      | none =>
        cases e with
        | none => exact so_none
        | some _ => cases h
      | some a =>
        cases e with
        | none => cases h
        | some x => exact so_some (S.b X sc C h)
    · cases t with
      | none =>
        cases e with
        | nil => exact sts_nil
        | cons _ _ => cases h
      | one u =>
        simp only [chkTs] at h
        split at h
        · exact sts_one (S.t X sc C _ _ h).1
        · cases h
    · cases it with
      | seq a => exact si_seq (S.b X sc C h)
      | rng1 a =>
        simp only [chkI] at h
        split at h
        · simp only [Bool.and_eq_true, decide_eq_true_eq] at h
          obtain ⟨⟨h1, h2⟩, h3⟩ := h
          subst h1
          exact si_rng1 C (glB_ok h2) (S.b X sc C h3) (chkE_star h3)
        · cases h
      | rng2 a b =>
        simp only [chkI] at h
        split at h
        · simp only [Bool.and_eq_true, decide_eq_true_eq] at h
          obtain ⟨⟨⟨h1, h2⟩, h3⟩, h4⟩ := h
          subst h1
          exact si_rng2 C (glB_ok h2) (S.b X sc C h3) (S.b X sc C h4) (chkE_star h3) (chkE_star h4)
        · cases h
      | vals a =>
        simp only [chkI] at h
        split at h
        · simp only [Bool.and_eq_true, decide_eq_true_eq] at h
          obtain ⟨⟨⟨h1, h2⟩, h3⟩, h4⟩ := h
          subst h1
          exact si_vals (S.b X sc C h4) (notCall_ok h3) h2
        · cases h
    · cases it with
      | seq a => exact sif_seq (S.f X sc C h) fun i e => by subst e; exact List.mem_cons_self
      | rng1 a =>
        simp only [chkI] at h
        split at h
        · simp only [Bool.and_eq_true, decide_eq_true_eq] at h
          obtain ⟨⟨h1, h2⟩, h3⟩ := h
          subst h1
          exact sif_rng1 C (glB_ok h2) (S.b X sc C h3) (chkE_star h3)
        · cases h
      | rng2 a b =>
        simp only [chkI] at h
        split at h
        · simp only [Bool.and_eq_true, decide_eq_true_eq] at h
          obtain ⟨⟨⟨h1, h2⟩, h3⟩, h4⟩ := h
          subst h1
          exact sif_rng2 C (glB_ok h2) (S.b X sc C h3) (S.b X sc C h4) (chkE_star h3) (chkE_star h4)
        · cases h
      | vals a =>
        simp only [chkI] at h
        split at h
        · simp only [Bool.and_eq_true, decide_eq_true_eq] at h
          obtain ⟨⟨⟨h1, h2⟩, h3⟩, h4⟩ := h
          subst h1
          exact sif_vals (S.f X sc C h4) (fun i e => by subst e; exact List.mem_cons_self) (notCall_ok h3) h2
        · cases h
end
end Vi
set_option Elab.async false
set_option linter.all false
set_option maxRecDepth 100000
/-! ViN: statements, defs. -/
namespace Vi
open PySem PySem.Spec PyProof.Rows L2
/-- x = a comprehension on one line: the stores are exchanged -/
def swB (sc : Scope) (x : Str) (px lp : Pos) (scope : Scope) : Bool := (sc.names.lookup x == some .local) && (px.line == lp.line) && !(scope.names.any fun (n, k) => n == x && (k == .local || k == .cell))
def isCall : Expr → Bool
  | .Call .. => true
  | _ => false
mutual
def chkC (N : List Str) : Nat → Scope → Cm → Stmt → Bool
  | 0, _, _, _ => false
  | n + 1, sc, c, s => match c with
    | .set i a => (match s with | .Assign [.Name x _] e _ => decide (N[i]? = some x) && locB sc x && chkE N n sc a e | _ => false)
    | .setT is a => (match s with | .Assign [.Tuple es _ _] e _ => chkNms N (fun x => locB sc x) is es && notTup e && notComp e && chkE N n sc a e | _ => false)
    | .setIx i kx a => (match s with | .Assign [.Subscript (.Name x _) ki _] e _ => nmB N sc i x && plainI ki && notComp e && chkE N n sc kx ki && chkE N n sc a e | _ => false)
    | .app i a => (match s with | .Expr (.Call (.Attribute (.Name x _) m ap) [e] [] cp) _ => decide (m = ("append" : Str)) && nmB N sc i x && (ap.endLine == cp.line) && chkE N n sc a e | _ => false)
    | .ex a => (match s with | .Expr e _ => isCall e && chkE N n sc a e | _ => false)
    | .ret a => (match s with | .Return (some e) _ => chkE N n sc a e | _ => false)
    | .retN => (match s with | .Return none _ => true | _ => false)
    | .ite t a b => (match s with | .If c x y _ => chkT N n sc t c && chkCs N n sc a x && chkCs N n sc b y | _ => false)
    | .for_ t it b => (match s with | .For tg iter x [] _ => chkTg N (fun x => locB sc x) t tg && chkI N n sc it iter && chkCs N n sc b x | _ => false)
    | .while_ t b => (match s with | .While c x [] _ => chkT N n sc t c && chkCs N n sc b x | _ => false)
    | .brk => (match s with | .Break _ => true | _ => false)
    | .cont => (match s with | .Continue _ => true | _ => false)
    | .pass => (match s with | .Pass _ => true | _ => false)
def chkCs (N : List Str) : Nat → Scope → Cms → List Stmt → Bool
  | 0, _, _, _ => false
  | n + 1, sc, c, s => match c with
    | .nil => (match s with | [] => true | _ => false)
    | .cons a as => (match s with | x :: xs => chkC N n sc a x && chkCs N n sc as xs | _ => false)
end
section
variable {N : List Str} {G : Str → Option (Nat × Ctr)} {k : Nat} {F0 H0 : Hp}
/-- a def's own frame -/
structure Sok (X : Cx) (N : List Str) (G : Str → Option (Nat × Ctr)) (k : Nat) (sc : Scope) : Prop where
  C : Cok X N G k sc
  fn : ∀ x, X.fn x = true
  kind : sc.kind = .function
  hp : PassesOwn (model X.prog X.w) X.A X.env X.xe
theorem comp_set {n : Nat} {X : Cx} {sc : Scope} (S : Sok X N G k sc) {i : Nat} {x : Str} {px : Pos} {a : Ex} {e : Expr} {pos : Pos} (hN : N[i]? = some x) (hx : locB sc x = true) (h : chkE N n sc a e = true) : PS X (.Assign [.Name x px] e pos) (tCm X.w G F0 H0 (.set i a)) := by
  have plain : swapsWith e (some (.Name x px)) pos.line X.env = pure false → PS X (.Assign [.Name x px] e pos) (tCm X.w G F0 H0 (.set i a)) := fun hs =>
    cs_set S.C hN (locB_ok hx) (S.fn x) ((snd n).e X sc S.C a e h) hs
  by_cases hc : notComp e = true
  · exact plain (notComp_ok hc)
  · cases n with
    | zero => simp [chkE] at h
    | succ n =>
      have hk : X.env.scope.kind = .function := by rw [S.C.scp]; exact S.kind
      cases e with
      | ListComp elt gs scope lp =>
        cases hb : swB sc x px lp scope with
        | false => exact plain (sw_lc hk (by rw [S.C.scp]; exact hb))
        | true =>
          have hl : sc.names.lookup x = some .local := by
            unfold swB at hb
            simp only [Bool.and_eq_true] at hb
            exact eq_of_beq hb.1.1
          unfold chkE at h
          have h := (Bool.and_eq_true_iff.mp h).2
          cases a <;> simp only at h <;> first | (cases h; done) | skip
          split at h
          · rename_i fz el t it cond _ _ tg iter ifs z _ _ heq
            cases heq
            simp only [Bool.and_eq_true, decide_eq_true_eq] at h
            obtain ⟨⟨⟨⟨⟨⟨h0, h1⟩, h2⟩, h3⟩, h4⟩, h5⟩, h6⟩ := h
            subst h0
            exact cs_setLc (lc_ok (snd n) X sc S.C h1 h2 h3 h4 h5 (fun x => notSet_ok (chkI_set h4) x)) (fun Y CY ew => (snd n).e Y _ CY _ _ h6) hN hl (sw_lc hk (by rw [S.C.scp]; exact hb))
          · cases h
      | DictComp kx vx gs scope lp =>
        cases hb : swB sc x px lp scope with
        | false => exact plain (sw_dc hk (by rw [S.C.scp]; exact hb))
        | true =>
          have hl : sc.names.lookup x = some .local := by
            unfold swB at hb
            simp only [Bool.and_eq_true] at hb
            exact eq_of_beq hb.1.1
          unfold chkE at h
          have h := (Bool.and_eq_true_iff.mp h).2
          cases a <;> simp only at h <;> first | (cases h; done) | skip
          split at h
          · rename_i heq
            cases heq
            simp only [Bool.and_eq_true, decide_eq_true_eq] at h
            obtain ⟨⟨⟨⟨⟨⟨h0, h1⟩, h2⟩, h3⟩, h4⟩, h5⟩, h6⟩ := h
            subst h0
            have hts : ∀ s, chkTs N n s .none [] = true := fun s => by
              cases n with
              | zero => simp [chkE] at h5
              | succ n => rfl
            exact cs_setDc (lc_ok (snd n) X sc S.C h1 h2 h3 h4 (hts _) (fun x => notSet_ok (chkI_set h4) x)) (fun Y CY ew => (snd n).e Y _ CY _ _ h5) (fun Y CY ew => (snd n).e Y _ CY _ _ h6) hN hl (sw_dc hk (by rw [S.C.scp]; exact hb))
          · cases h
      | SetComp _ _ _ _ =>
        unfold chkE at h
        have h := (Bool.and_eq_true_iff.mp h).2
        cases a <;> simp at h
      | _ => simp [notComp] at hc
theorem sole_ok {e t : Expr} (h : notComp e = true) {l : Nat} {env : Env} : swapsWithSole [t] e l env = pure false := notComp_ok (t := some t) (l := l) (env := env) h
theorem assign_ix {x : Str} {px ip : Pos} {ki : Expr} (h : plainI ki = true) (env : Env) : ∀ v, assign (.Subscript (.Name x px) ki ip) env v = (do
      let ov ← holding [v] (eval (.Name x px) env)
      let iv ← holding [v, ov] (eval ki env)
      standAt ip
      holding [v, ov, iv] (setItem ov iv v)
      release [v, ov, iv] []) := fun v => by cases ki <;> first | rfl | cases h
theorem snd_c {X : Cx} {sc : Scope} (S : Sok X N G k sc) : ∀ n : Nat, (∀ c s, chkC N n sc c s = true → PS X s (tCm X.w G F0 H0 c)) ∧ (∀ c s, chkCs N n sc c s = true → PSs X s (tCs X.w G F0 H0 c))
  | 0 => ⟨fun c s h => by simp [chkC] at h, fun c s h => by simp [chkCs] at h⟩
  | n + 1 => by
    obtain ⟨ih1, ih2⟩ := snd_c S n
    have E := snd (N := N) (G := G) (k := k) (F0 := F0) (H0 := H0) n
    have tgok : ∀ x, locB sc x = true → Loc X.env.scope x ∧ (X.fn x = true ∨ X.env.scope.names.lookup x = some .local) := fun x hx => ⟨by rw [S.C.scp]; exact locB_ok hx, .inl (S.fn x)⟩
    refine ⟨fun c s h => ?_, fun c s h => ?_⟩
    · cases c with
      | set i a =>
        simp only [chkC] at h
        split at h
        · simp only [Bool.and_eq_true, decide_eq_true_eq] at h
          exact comp_set S h.1.1 h.1.2 h.2
        · cases h
      | setT is a =>
        simp only [chkC] at h
        split at h
        · simp only [Bool.and_eq_true] at h
          obtain ⟨⟨⟨h1, h2⟩, h3⟩, h4⟩ := h
          exact cs_setT S.C.calm (nms_ok S.C.nm S.C.nd tgok h1) (E.e X sc S.C _ _ h4) (sole_ok h3) (by rename_i e _; cases e <;> first | rfl | cases h2)
        · cases h
      | setIx i kx a =>
        simp only [chkC] at h
        split at h
        · simp only [Bool.and_eq_true] at h
          obtain ⟨⟨⟨⟨h1, h2⟩, h3⟩, h4⟩, h5⟩ := h
          obtain ⟨a1, a2, a3, a4⟩ := nmB_ok h1
          exact cs_setIx S.C a1 a2 a3 a4 (E.b X sc S.C h4) (E.e X sc S.C _ _ h5) (sole_ok h3) rfl (assign_ix h2 X.env)
        · cases h
      | app i a =>
        simp only [chkC] at h
        split at h
        · simp only [Bool.and_eq_true, decide_eq_true_eq] at h
          obtain ⟨⟨⟨h1, h2⟩, h3⟩, h4⟩ := h
          subst h1
          obtain ⟨a1, a2, a3, a4⟩ := nmB_ok h2
          exact cs_app S.C a1 a2 a3 a4 (E.e X sc S.C _ _ h4) (chkE_star h4) h3
        · cases h
      | ex a =>
        simp only [chkC] at h
        split at h
        · rw [Bool.and_eq_true] at h
          exact cs_ex (E.e X sc S.C _ _ h.2) (by rename_i e _; cases e <;> first | rfl | cases h.1)
        · cases h
      | ret a =>
        simp only [chkC] at h
        split at h
        · cases hv : isVar a with
          | false => exact cs_ret (E.e X sc S.C _ _ h) hv
          | true =>
            cases a with
            | var i =>
              obtain ⟨x, p, rfl, hn⟩ := chk_var h
              obtain ⟨a1, a2, a3, a4⟩ := nmB_ok hn
              exact cs_retV S.C a1 a2 a3 a4
            | _ => cases hv
        · cases h
      | retN =>
        simp only [chkC] at h
        split at h
        · exact cs_retN
        · cases h
      | ite t a b =>
        simp only [chkC] at h
        split at h
        · simp only [Bool.and_eq_true] at h
          exact cs_ite (E.t X sc S.C _ _ h.1.1).1 (ih2 _ _ h.1.2) (ih2 _ _ h.2)
        · cases h
      | for_ t it b =>
        simp only [chkC] at h
        split at h
        · simp only [Bool.and_eq_true] at h
          obtain ⟨⟨h1, h2⟩, h3⟩ := h
          exact cs_for S.hp S.C.calm (E.iF X sc S.C _ _ _ h2) (tg_ok S.C.calm S.C.nm S.C.nd tgok h1) (ih2 _ _ h3) (fun x => notSet_ok (chkI_set h2) x)
        · cases h
      | while_ t b =>
        simp only [chkC] at h
        split at h
        · rw [Bool.and_eq_true] at h
          exact cs_while S.hp (E.t X sc S.C _ _ h.1).1 (ih2 _ _ h.2)
        · cases h
      | brk =>
        simp only [chkC] at h
        split at h
        · exact cs_brk
        · cases h
      | cont =>
        simp only [chkC] at h
        split at h
        · exact cs_cont
        · cases h
      | pass =>
        simp only [chkC] at h
        split at h
        · exact cs_pass
        · cases h
    · cases c with
      | nil =>
        cases s with
        | nil => exact cs_nil
        | cons _ _ => simp [chkCs] at h
      | cons a as =>
        cases s with
        | nil => simp [chkCs] at h
        | cons x xs =>
          simp only [chkCs, Bool.and_eq_true] at h
          exact cs_cons (ih1 _ _ h.1) (ih2 _ _ h.2)
end

/-! ### defs -/
/-- the start of a def -/
theorem start_ok {w : World} {F H : Hp} {N : List Str} {vs : List V} {ds : List D} (sF : Same F H) (r : Reps w F vs ds) : EnvOk w F H F H (startE N.length ds) (L2.start N vs) where
  len := by simp [startE, L2.start, r.length]
  slot := fun i sv e => by
    unfold startE at e
    unfold L2.start
    by_cases h : i < ds.length
    · have h' : i < vs.length := by rw [r.length]; exact h
      rw [List.getElem?_append_left (by simpa using h)] at e
      rw [List.getElem?_append_left (by simpa using h')]
      rw [List.getElem?_map, List.getElem?_eq_getElem h] at e
      cases e
      obtain ⟨v, hv, rv⟩ := r.get (List.getElem?_eq_getElem h)
      exact ⟨v, by rw [List.getElem?_map, hv]; rfl, .fro rv⟩
    · rw [List.getElem?_append_right (by simpa using h)] at e
      rw [List.getElem?_append_right (by rw [List.length_map, r.length]; omega)]
      simp only [List.length_map] at e ⊢
      rw [List.getElem?_replicate] at e ⊢
      split at e
      · cases e
        show _ = some none
        rw [if_pos (by rw [r.length]; assumption)]
      · cases e
  dist := fun i j d d' p _ e _ _ => by
    unfold startE at e
    by_cases h : i < ds.length
    · rw [List.getElem?_append_left (by simpa using h), List.getElem?_map, List.getElem?_eq_getElem h] at e
      cases e
    · rw [List.getElem?_append_right (by simpa using h), List.getElem?_replicate] at e
      split at e <;> cases e
  refs := fun i a e => by
    unfold L2.start at e
    by_cases h : i < vs.length
    · rw [List.getElem?_append_left (by simpa using h), List.getElem?_map, List.getElem?_eq_getElem h] at e
      have ev : vs[i] = .ref a := by simpa using e
      have hd : i < ds.length := by rw [← r.length]; exact h
      obtain ⟨v, hv, rv⟩ := r.get (List.getElem?_eq_getElem hd)
      rw [List.getElem?_eq_getElem h, ev] at hv
      cases hv
      exact Same.ne sF rv.refF
    · rw [List.getElem?_append_right (by simpa using h), List.getElem?_replicate] at e
      split at e <;> cases e
  sub0 := Same.refl _
  sub := sF
  same := Same.refl _
  fr := fun a h => .inl h
/-- a def by its term -/
theorem def_ok {P : Program} {w : World} {K : PySem.W.Frag} {mg : Str → Option Value} {base : Heap} {x qual : Str} {params : Arguments} {body : List Stmt} {sc : Scope} {f : Addr} {fd : FuncData} {N ps : List Str} {k n : Nat} {G : Str → Option (Nat × Ctr)} {c : Ctr} {cs : Cms}
    (F : FunD K x qual params body sc [] [] f fd) (S : FnScope N ps sc) (hc : chkCs N n sc cs body = true) (hB : Body G N.length cs c) (hfree : ∀ x ∈ bnames, mg x = none)
    (hG : ∀ g ct, G g = some ct → ∃ (fa : Addr) (fd : FuncData) (j : Nat) (ps : List Str), mg g = some (.ref fa) ∧ PySem.W.keepIn K (.ref fa) = true ∧ Binds K fd ps [] ∧ j ≤ k ∧ ps.length = ct.1 ∧ FnOk P w K mg base CX0 j fa fd ps (spOf w ct.1 ct.2)) :
    FnOk P w K mg base CX0 (k + 1) f fd ps (spOf w ps.length c) := by
  refine F.ok S (fun vs H Q E h => ?_) fun cdv A outer s H vs Q E hr h => ?_
  · obtain ⟨F', ds, Pr, hl, _, r, _⟩ := h
    rw [r.length, hl]
  · obtain ⟨F', ds, Pr, hl, sF, r, hc', fin⟩ := h
    have C : Cok (cxOf CX0 P w K mg base N qual sc f cdv A outer s H E).nox N G k sc := ⟨rfl, S.nd, rfl, rfl, hr, hfree, hG⟩
    have So : Sok (cxOf CX0 P w K mg base N qual sc f cdv A outer s H E).nox N G k sc := ⟨C, fun _ => rfl, S.kind, PassesOwn.never⟩
    refine ⟨_, PSs.nox ((snd_c (F0 := F') (H0 := H) So n).2 cs body hc), F', startE N.length ds, _, start_ok sF r, hB ds Pr (fun _ => False) hc', ?_⟩
    refine ⟨fun e' h σ' F2 H2 s2 ok => ?_, fun e' h => h.elim, fun e' h => h.elim, fun r' h v F2 H2 s1 s2 s3 fr rp => fin r' h v F2 H2 s1 s2 s3 fr rp⟩
    exact fin _ h .non F2 H2 s2 ok.sub ok.same ok.fr (.fro .non)
end Vi
set_option Elab.async false
set_option linter.all false
set_option maxRecDepth 100000
namespace Vi
open PySem PySem.Spec PyProof.Rows L2
/-- frozen(value); slots 0:value 1:item -/
def c_frozen : Cms := (.cons (.ite (.val (.isiT (.var 0) ["list", "tuple"])) (.cons (.ret (.fn1 .tuple (.lc [] (.call "frozen" (.cons (.var 1) .nil)) (.nm 1) (.seq (.var 0)) .none))) .nil) .nil) (.cons (.ret (.var 0)) .nil))
/-- least_form(form, width); slots 0:form 1:width -/
def c_least_form : Cms := (.cons (.ret (.call "least_of" (.cons (.call "frozen" (.cons (.var 0) .nil)) .nil))) .nil)
/-- least_of(form); slots 0:form 1:ready 2:met 3:least -/
def c_least_of : Cms := (.cons (.set 1 (.call "with_start" (.cons (.var 0) .nil))) (.cons (.set 2 (.call "renumbered" (.cons (.var 1) (.cons (.call "met_states" (.cons (.var 1) .nil)) .nil)))) (.cons (.set 3 (.call "joined" (.cons (.var 2) (.cons (.call "like_classes" (.cons (.var 2) .nil)) .nil)))) (.cons (.ret (.call "renumbered" (.cons (.var 3) (.cons (.call "met_states" (.cons (.var 3) .nil)) .nil)))) .nil))))
/-- with_start(form); slots 0:form 1:moved 2:move 3:ends 4:moves 5:start -/
def c_with_start : Cms := (.cons (.set 1 (.lc [] (.tup (.cons (.var 3) (.cons (.fn1 .tuple (.lc [] (.bin .add (.var 2) (.int 1)) (.nm 2) (.seq (.var 4)) .none)) .nil))) (.tp [3, 4]) (.seq (.var 0)) .none)) (.cons (.set 5 (.tup (.cons (.idx (.idx (.var 1) (.int 0)) (.int 0)) (.cons (.bin .add (.tup (.cons (.int 0) .nil)) (.slc (.idx (.idx (.var 1) (.int 0)) (.int 1)) (.some (.int 1)) .none)) .nil)))) (.cons (.ret (.bin .add (.tup (.cons (.var 5) .nil)) (.fn1 .tuple (.var 1)))) .nil)))
/-- met_states(form); slots 0:form 1:known 2:met 3:at 4:move -/
def c_met_states : Cms := (.cons (.set 1 (.dnew1 (.int 0) (.bl true))) (.cons (.set 2 (.lst (.cons (.int 0) .nil))) (.cons (.set 3 (.int 0)) (.cons (.while_ (.val (.cmp .lt (.var 3) (.fn1 .len (.var 2)))) (.cons (.for_ (.nm 4) (.seq (.idx (.idx (.var 0) (.idx (.var 2) (.var 3))) (.int 1))) (.cons (.ite (.val (.cmp .nmem (.var 4) (.var 1))) (.cons (.setIx 1 (.var 4) (.bl true)) (.cons (.app 2 (.var 4)) .nil)) .nil) .nil)) (.cons (.set 3 (.bin .add (.var 3) (.int 1))) .nil))) (.cons (.ret (.fn1 .tuple (.var 2))) .nil)))))
/-- renumbered(form, met); slots 0:form 1:met 2:numbers 3:k 4:move 5:state -/
def c_renumbered : Cms := (.cons (.set 2 (.dc [] (.idx (.var 1) (.var 3)) (.var 3) (.nm 3) (.rng1 (.fn1 .len (.var 1))))) (.cons (.ret (.fn1 .tuple (.lc [] (.tup (.cons (.idx (.idx (.var 0) (.var 5)) (.int 0)) (.cons (.fn1 .tuple (.lc [] (.idx (.var 2) (.var 4)) (.nm 4) (.seq (.idx (.idx (.var 0) (.var 5)) (.int 1))) .none)) .nil))) (.nm 5) (.seq (.var 1)) .none))) .nil))
/-- like_classes(form); slots 0:form 1:classes 2:ends 3:moves 4:finer -/
def c_like_classes : Cms := (.cons (.set 1 (.call "numbered" (.cons (.lc [] (.var 2) (.tp [2, 3]) (.seq (.var 0)) .none) .nil))) (.cons (.set 4 (.call "split_classes" (.cons (.var 0) (.cons (.var 1) .nil)))) (.cons (.while_ (.val (.cmp .gt (.fn1 .max (.var 4)) (.fn1 .max (.var 1)))) (.cons (.set 1 (.var 4)) (.cons (.set 4 (.call "split_classes" (.cons (.var 0) (.cons (.var 1) .nil)))) .nil))) (.cons (.ret (.var 1)) .nil))))
/-- split_classes(form, classes); slots 0:form 1:classes 2:signs 3:move 4:k -/
def c_split_classes : Cms := (.cons (.set 2 (.lc [] (.tup (.cons (.idx (.var 1) (.var 4)) (.cons (.fn1 .tuple (.lc [] (.idx (.var 1) (.var 3)) (.nm 3) (.seq (.idx (.idx (.var 0) (.var 4)) (.int 1))) .none)) .nil))) (.nm 4) (.rng1 (.fn1 .len (.var 0))) .none)) (.cons (.ret (.call "numbered" (.cons (.var 2) .nil))) .nil))
/-- numbered(marks); slots 0:marks 1:numbers 2:mark -/
def c_numbered : Cms := (.cons (.set 1 .dnew) (.cons (.for_ (.nm 2) (.seq (.var 0)) (.cons (.ite (.val (.cmp .nmem (.var 2) (.var 1))) (.cons (.setIx 1 (.var 2) (.fn1 .len (.var 1))) .nil) .nil) .nil)) (.cons (.ret (.fn1 .tuple (.lc [] (.idx (.var 1) (.var 2)) (.nm 2) (.seq (.var 0)) .none))) .nil)))
/-- joined(form, classes); slots 0:form 1:classes 2:first 3:k 4:move -/
def c_joined : Cms := (.cons (.set 2 .dnew) (.cons (.for_ (.nm 3) (.rng1 (.fn1 .len (.var 0))) (.cons (.ite (.val (.cmp .nmem (.idx (.var 1) (.var 3)) (.var 2))) (.cons (.setIx 2 (.idx (.var 1) (.var 3)) (.var 3)) .nil) .nil) .nil)) (.cons (.ret (.fn1 .tuple (.lc [] (.tup (.cons (.idx (.idx (.var 0) (.var 3)) (.int 0)) (.cons (.fn1 .tuple (.lc [] (.idx (.var 1) (.var 4)) (.nm 4) (.seq (.idx (.idx (.var 0) (.var 3)) (.int 1))) .none)) .nil))) (.nm 3) (.vals (.var 2)) .none))) .nil)))
/-- _law_whole(value); slots 0:value -/
def c_law_whole : Cms := (.cons (.ret (.andv (.isi (.var 0) "int") (.notv (.isi (.var 0) "bool")))) .nil)
/-- _law_cell(script, k); slots 0:script 1:k 2:seed 3:cell -/
def c_law_cell : Cms := (.cons (.ite (.val (.cmp .lt (.var 1) (.fn1 .len (.var 0)))) (.cons (.ret (.idx (.var 0) (.var 1))) .nil) .nil) (.cons (.set 2 (.int 17)) (.cons (.for_ (.nm 3) (.seq (.var 0)) (.cons (.set 2 (.bin .mod (.fn1 .int (.bin .add (.bin .mul (.var 2) (.int 31)) (.bin .mod (.fn1 .int (.var 3)) (.int 1000003)))) (.int 1000003))) .nil)) (.cons (.ret (.bin .mod (.fn1 .int (.bin .mul (.bin .mul (.bin .add (.var 2) (.int 7)) (.bin .add (.var 1) (.int 3))) (.int 69621))) (.int 2147483647))) .nil))))
/-- _law_digits(cell, sizes); slots 0:cell 1:sizes 2:row 3:rest 4:size 5:seed 6:k 7:twice -/
def c_law_digits : Cms := (.cons (.set 2 (.lst .nil)) (.cons (.set 3 (.fn1 .int (.var 0))) (.cons (.ite (.val (.cmp .ge (.var 3) (.bin .pow (.int 10) (.int 18)))) (.cons (.set 3 (.bin .sub (.var 3) (.bin .pow (.int 10) (.int 18)))) (.cons (.for_ (.nm 4) (.seq (.var 1)) (.cons (.app 2 (.bin .mod (.fn1 .int (.var 3)) (.var 4))) (.cons (.set 3 (.bin .fdiv (.fn1 .int (.var 3)) (.var 4))) .nil))) (.cons (.ret (.var 2)) .nil))) .nil) (.cons (.set 5 (.bin .mod (.fn1 .int (.var 3)) (.int 2147483629))) (.cons (.for_ (.nm 6) (.rng1 (.fn1 .len (.var 1))) (.cons (.set 5 (.bin .mod (.fn1 .int (.bin .add (.bin .add (.bin .mul (.var 5) (.int 48271)) (.bin .mul (.int 974711) (.var 6))) (.int 12345))) (.int 2147483647))) (.cons (.set 7 (.bin .mod (.fn1 .int (.bin .mul (.var 5) (.bin .add (.bin .fdiv (.var 5) (.int 65537)) (.int 3)))) (.int 2147483629))) (.cons (.app 2 (.bin .mod (.bin .fdiv (.var 7) (.int 19)) (.idx (.var 1) (.var 6)))) .nil)))) (.cons (.ret (.var 2)) .nil))))))
/-- _law_sizes(wide, upto); slots 0:wide 1:upto -/
def c_law_sizes : Cms := (.cons (.ret (.bin .add (.lst (.cons (.int 8) (.cons (.idx (.lst (.cons (.int 32) (.cons (.int 320) .nil))) (.fn1 .int (.cmp .gt (.var 1) (.int 32)))) .nil))) (.bin .mul (.bin .add (.lst (.cons (.int 8) .nil)) (.bin .mul (.lst (.cons (.int 840) .nil)) (.var 0))) (.var 1)))) .nil)
/-- _law_form(row, wide); slots 0:row 1:wide 2:upto 3:many 4:lively 5:marks 6:k 7:half 8:cores 9:form 10:ends 11:digits 12:moves 13:digit 14:core 15:j -/
def c_law_form : Cms := (.cons (.set 2 (.bin .fdiv (.bin .sub (.fn1 .len (.var 0)) (.int 2)) (.bin .add (.var 1) (.int 1)))) (.cons (.set 3 (.fn2 .min (.var 2) (.idx (.lst (.cons (.int 1) (.cons (.int 2) (.cons (.int 2) (.cons (.int 3) (.cons (.int 3) (.cons (.int 4) (.cons (.int 4) (.cons (.int 5) (.cons (.int 5) (.cons (.int 6) (.cons (.int 6) (.cons (.int 7) (.cons (.int 7) (.cons (.int 8) (.cons (.int 8) (.cons (.int 8) .nil))))))))))))))))) (.bin .mod (.fn1 .int (.idx (.var 0) (.int 1))) (.int 16))))) (.cons (.set 4 (.cmp .gt (.bin .mod (.fn1 .int (.idx (.var 0) (.int 1))) (.int 32)) (.int 15))) (.cons (.ite (.val (.cmp .gt (.var 2) (.int 8))) (.cons (.set 3 (.bin .add (.int 9) (.bin .mod (.fn1 .int (.idx (.var 0) (.int 1))) (.bin .sub (.var 2) (.int 8))))) (.cons (.set 4 (.cmp .gt (.idx (.var 0) (.int 2)) (.int 3))) .nil)) .nil) (.cons (.set 5 (.lc [] (.cmp .eq (.bin .mod (.fn1 .int (.idx (.var 0) (.bin .add (.int 2) (.bin .mul (.var 6) (.bin .add (.var 1) (.int 1)))))) (.int 2)) (.int 1)) (.nm 6) (.rng1 (.var 3)) .none)) (.cons (.ite (.and (.val (.cmp .gt (.var 3) (.int 1))) (.val (.var 4))) (.cons (.setIx 5 (.int 1) (.notv (.idx (.var 5) (.int 0)))) .nil) .nil) (.cons (.set 7 (.bin .fdiv (.bin .add (.var 3) (.int 1)) (.int 2))) (.cons (.set 8 (.lst .nil)) (.cons (.set 9 (.lst .nil)) (.cons (.for_ (.nm 6) (.rng1 (.var 3)) (.cons (.set 10 (.idx (.var 5) (.var 6))) (.cons (.set 11 (.slc (.var 0) (.some (.bin .add (.int 3) (.bin .mul (.var 6) (.bin .add (.var 1) (.int 1))))) (.some (.bin .add (.bin .add (.int 3) (.bin .mul (.var 6) (.bin .add (.var 1) (.int 1)))) (.var 1))))) (.cons (.set 12 (.lc [] (.bin .mod (.fn1 .int (.var 13)) (.var 3)) (.nm 13) (.seq (.var 11)) .none)) (.cons (.ite (.and (.val (.cmp .eq (.idx (.var 0) (.int 0)) (.int 3))) (.val (.cmp .lt (.var 6) (.bin .sub (.var 3) (.int 1))))) (.cons (.set 12 (.lc [] (.bin .add (.bin .add (.var 6) (.int 1)) (.bin .mul (.bin .mod (.fn1 .int (.bin .fdiv (.var 13) (.int 2))) (.bin .sub (.bin .sub (.var 3) (.int 1)) (.var 6))) (.bin .mod (.fn1 .int (.var 13)) (.int 2)))) (.nm 13) (.seq (.var 11)) .none)) (.cons (.set 10 (.orv (.var 10) (.andv (.var 4) (.cmp .eq (.var 6) (.bin .sub (.var 3) (.int 2)))))) .nil)) .nil) (.cons (.ite (.val (.cmp .eq (.idx (.var 0) (.int 0)) (.int 4))) (.cons (.app 8 (.lst (.cons (.var 10) (.cons (.lc [] (.bin .mod (.fn1 .int (.var 13)) (.var 7)) (.nm 13) (.seq (.var 11)) .none) .nil)))) (.cons (.set 14 (.idx (.var 8) (.bin .mod (.fn1 .int (.var 6)) (.var 7)))) (.cons (.set 10 (.idx (.var 14) (.int 0))) (.cons (.set 12 (.lc [] (.bin .add (.idx (.idx (.var 14) (.int 1)) (.var 15)) (.bin .mul (.var 7) (.fn1 .int (.andv (.cmp .lt (.bin .add (.idx (.idx (.var 14) (.int 1)) (.var 15)) (.var 7)) (.var 3)) (.cmp .eq (.bin .mod (.fn1 .int (.bin .fdiv (.idx (.var 11) (.var 15)) (.int 8))) (.int 2)) (.int 1)))))) (.nm 15) (.rng1 (.var 1)) .none)) .nil)))) .nil) (.cons (.ite (.or (.val (.cmp .eq (.idx (.var 0) (.int 0)) (.int 5))) (.val (.cmp .eq (.idx (.var 0) (.int 0)) (.int 6)))) (.cons (.set 10 (.cmp .eq (.var 6) (.bin .mod (.fn1 .int (.idx (.var 0) (.int 2))) (.var 3)))) .nil) .nil) (.cons (.ite (.val (.cmp .eq (.idx (.var 0) (.int 0)) (.int 6))) (.cons (.set 12 (.lc [] (.bin .mod (.fn1 .int (.bin .add (.bin .mul (.int 2) (.var 6)) (.bin .mul (.var 15) (.bin .add (.int 1) (.idx (.var 0) (.int 3)))))) (.var 3)) (.nm 15) (.rng1 (.var 1)) .none)) .nil) .nil) (.cons (.ite (.and (.or (.val (.cmp .eq (.idx (.var 0) (.int 0)) (.int 3))) (.val (.cmp .eq (.idx (.var 0) (.int 0)) (.int 7)))) (.val (.cmp .eq (.var 6) (.bin .sub (.var 3) (.int 1))))) (.cons (.set 10 (.bl false)) (.cons (.set 12 (.lc [6] (.var 6) (.nm 15) (.rng1 (.var 1)) .none)) .nil)) .nil) (.cons (.app 9 (.lst (.cons (.var 10) (.cons (.var 12) .nil)))) .nil)))))))))) (.cons (.ret (.var 9)) .nil)))))))))))
/-- _law_large(row, wide); slots 0:row 1:wide 2:many 3:form 4:k 5:ends 6:moves 7:j -/
def c_law_large : Cms := (.cons (.set 2 (.bin .fdiv (.bin .sub (.int 300) (.idx (.var 0) (.int 1))) (.bin .add (.int 1) (.fn1 .int (.cmp .eq (.idx (.var 0) (.int 0)) (.int 3)))))) (.cons (.set 3 (.lst .nil)) (.cons (.for_ (.nm 4) (.rng1 (.var 2)) (.cons (.set 5 (.cmp .eq (.bin .mod (.fn1 .int (.var 4)) (.bin .add (.int 2) (.idx (.var 0) (.neg (.int 1))))) (.bin .mod (.fn1 .int (.idx (.var 0) (.neg (.int 2)))) (.bin .add (.int 2) (.idx (.var 0) (.neg (.int 1))))))) (.cons (.set 6 (.lc [] (.bin .mod (.fn1 .int (.bin .add (.bin .mul (.idx (.var 0) (.bin .add (.int 2) (.bin .mul (.int 2) (.var 7)))) (.var 4)) (.idx (.var 0) (.bin .add (.int 3) (.bin .mul (.int 2) (.var 7)))))) (.var 2)) (.nm 7) (.rng1 (.var 1)) .none)) (.cons (.ite (.val (.cmp .eq (.idx (.var 0) (.int 0)) (.int 3))) (.cons (.set 5 (.cmp .eq (.var 4) (.bin .sub (.var 2) (.int 1)))) (.cons (.set 6 (.lc [] (.fn2 .min (.bin .add (.var 4) (.var 7)) (.bin .sub (.var 2) (.int 1))) (.nm 7) (.rng1 (.var 1)) .none)) .nil)) .nil) (.cons (.app 3 (.lst (.cons (.var 5) (.cons (.var 6) .nil)))) .nil))))) (.cons (.ret (.var 3)) .nil))))
/-- _law_shaped(form, shape); slots 0:form 1:shape 2:state -/
def c_law_shaped : Cms := (.cons (.ite (.val (.cmp .eq (.var 1) (.int 0))) (.cons (.ret (.fn1 .tuple (.lc [] (.tup (.cons (.idx (.var 2) (.int 0)) (.cons (.fn1 .tuple (.idx (.var 2) (.int 1))) .nil))) (.nm 2) (.seq (.var 0)) .none))) .nil) .nil) (.cons (.ite (.val (.cmp .eq (.var 1) (.int 1))) (.cons (.ret (.lc [] (.lst (.cons (.idx (.var 2) (.int 0)) (.cons (.fn1 .list (.idx (.var 2) (.int 1))) .nil))) (.nm 2) (.seq (.var 0)) .none)) .nil) .nil) (.cons (.ite (.val (.cmp .eq (.var 1) (.int 2))) (.cons (.ret (.fn1 .tuple (.lc [] (.lst (.cons (.idx (.var 2) (.int 0)) (.cons (.fn1 .tuple (.idx (.var 2) (.int 1))) .nil))) (.nm 2) (.seq (.var 0)) .none))) .nil) .nil) (.cons (.ret (.lc [] (.tup (.cons (.idx (.var 2) (.int 0)) (.cons (.fn1 .list (.idx (.var 2) (.int 1))) .nil))) (.nm 2) (.seq (.var 0)) .none)) .nil))))
/-- _law_machine(form); slots 0:form 1:states 2:move 3:state -/
def c_law_machine : Cms := (.cons (.set 1 (.lst (.cons (.tup (.cons (.idx (.idx (.var 0) (.int 0)) (.int 0)) (.cons (.bin .add (.lst (.cons (.int 0) .nil)) (.lc [] (.bin .add (.var 2) (.int 1)) (.nm 2) (.seq (.slc (.idx (.idx (.var 0) (.int 0)) (.int 1)) (.some (.int 1)) .none)) .none)) .nil))) .nil))) (.cons (.for_ (.nm 3) (.seq (.var 0)) (.cons (.app 1 (.tup (.cons (.idx (.var 3) (.int 0)) (.cons (.lc [] (.bin .add (.var 2) (.int 1)) (.nm 2) (.seq (.idx (.var 3) (.int 1))) .none) .nil)))) .nil)) (.cons (.ret (.var 1)) .nil)))
/-- _law_counted(told); slots 0:told 1:met 2:k 3:move -/
def c_law_counted : Cms := (.cons (.set 1 (.int 1)) (.cons (.for_ (.nm 2) (.rng1 (.fn1 .len (.var 0))) (.cons (.ite (.val (.cmp .ge (.var 2) (.var 1))) (.cons (.ret (.bl false)) .nil) .nil) (.cons (.for_ (.nm 3) (.seq (.idx (.idx (.var 0) (.var 2)) (.int 1))) (.cons (.ite (.val (.cmp .gt (.var 3) (.var 1))) (.cons (.ret (.bl false)) .nil) .nil) (.cons (.ite (.val (.cmp .eq (.var 3) (.var 1))) (.cons (.set 1 (.bin .add (.var 1) (.int 1))) .nil) .nil) .nil))) .nil))) (.cons (.ret (.cmp .eq (.var 1) (.fn1 .len (.var 0)))) .nil)))
/-- _law_apart(told); slots 0:told 1:marks 2:state 3:many 4:turn 5:places 6:fresh 7:k 8:mark 9:move -/
def c_law_apart : Cms := (.cons (.set 1 (.lc [] (.fn1 .int (.idx (.var 2) (.int 0))) (.nm 2) (.seq (.var 0)) .none)) (.cons (.set 3 (.int 0)) (.cons (.for_ (.nm 4) (.rng1 (.int 4000)) (.cons (.set 5 .dnew) (.cons (.set 6 (.lst .nil)) (.cons (.for_ (.nm 7) (.rng1 (.fn1 .len (.var 0))) (.cons (.set 8 (.tup (.cons (.idx (.var 1) (.var 7)) (.cons (.fn1 .tuple (.lc [] (.idx (.var 1) (.var 9)) (.nm 9) (.seq (.idx (.idx (.var 0) (.var 7)) (.int 1))) .none)) .nil)))) (.cons (.ite (.val (.cmp .nmem (.var 8) (.var 5))) (.cons (.setIx 5 (.var 8) (.fn1 .len (.var 5))) .nil) .nil) (.cons (.app 6 (.idx (.var 5) (.var 8))) .nil)))) (.cons (.set 1 (.fn1 .list (.var 6))) (.cons (.ite (.val (.cmp .eq (.fn1 .len (.var 5)) (.var 3))) (.cons .brk .nil) .nil) (.cons (.set 3 (.fn1 .len (.var 5))) .nil))))))) (.cons (.ret (.cmp .eq (.var 3) (.fn1 .len (.var 0)))) .nil))))
/-- _law_walked(told, machine); slots 0:told 1:machine 2:partner 3:k 4:waiting 5:at 6:mine 7:j 8:target 9:due -/
def c_law_walked : Cms := (.cons (.set 2 (.bin .add (.lst (.cons (.int 0) .nil)) (.lc [] (.neg (.int 1)) (.nm 3) (.rng1 (.bin .sub (.fn1 .len (.var 1)) (.int 1))) .none))) (.cons (.set 4 (.lst (.cons (.int 0) .nil))) (.cons (.for_ (.nm 5) (.rng1 (.fn1 .len (.var 1))) (.cons (.ite (.val (.cmp .ge (.var 5) (.fn1 .len (.var 4)))) (.cons .brk .nil) .nil) (.cons (.set 6 (.idx (.var 4) (.var 5))) (.cons (.ite (.val (.cmp .ne (.idx (.idx (.var 1) (.var 6)) (.int 0)) (.idx (.idx (.var 0) (.idx (.var 2) (.var 6))) (.int 0)))) (.cons (.ret (.bl false)) .nil) .nil) (.cons (.for_ (.nm 7) (.rng1 (.fn1 .len (.idx (.idx (.var 1) (.var 6)) (.int 1)))) (.cons (.set 8 (.idx (.idx (.idx (.var 1) (.var 6)) (.int 1)) (.var 7))) (.cons (.set 9 (.idx (.idx (.idx (.var 0) (.idx (.var 2) (.var 6))) (.int 1)) (.var 7))) (.cons (.ite (.val (.cmp .lt (.idx (.var 2) (.var 8)) (.int 0))) (.cons (.setIx 2 (.var 8) (.var 9)) (.cons (.app 4 (.var 8)) .nil)) (.cons (.ite (.val (.cmp .ne (.idx (.var 2) (.var 8)) (.var 9))) (.cons (.ret (.bl false)) .nil) .nil) .nil)) .nil)))) .nil))))) (.cons (.ret (.bl true)) .nil))))
/-- _law_is_least(told, machine, wide); slots 0:told 1:machine 2:wide 3:state 4:move -/
def c_law_is_least : Cms := (.cons (.ite (.or (.not (.val (.isi (.var 0) "tuple"))) (.not (.val (.chain .le .le (.int 1) (.fn1 .len (.var 0)) (.fn1 .len (.var 1)))))) (.cons (.ret (.bl false)) .nil) .nil) (.cons (.for_ (.nm 3) (.seq (.var 0)) (.cons (.ite (.or (.not (.val (.isi (.var 3) "tuple"))) (.or (.val (.cmp .ne (.fn1 .len (.var 3)) (.int 2))) (.not (.or (.val (.cmp .is_ (.idx (.var 3) (.int 0)) (.bl true))) (.val (.cmp .is_ (.idx (.var 3) (.int 0)) (.bl false))))))) (.cons (.ret (.bl false)) .nil) .nil) (.cons (.ite (.or (.not (.val (.isi (.idx (.var 3) (.int 1)) "tuple"))) (.val (.cmp .ne (.fn1 .len (.idx (.var 3) (.int 1))) (.var 2)))) (.cons (.ret (.bl false)) .nil) .nil) (.cons (.for_ (.nm 4) (.seq (.idx (.var 3) (.int 1))) (.cons (.ite (.or (.not (.val (.call "_law_whole" (.cons (.var 4) .nil)))) (.not (.val (.chain .le .lt (.int 0) (.var 4) (.fn1 .len (.var 0)))))) (.cons (.ret (.bl false)) .nil) .nil) .nil)) .nil)))) (.cons (.ite (.or (.val (.cmp .ne (.idx (.idx (.idx (.var 0) (.int 0)) (.int 1)) (.int 0)) (.int 0))) (.not (.val (.call "_law_counted" (.cons (.var 0) .nil))))) (.cons (.ret (.bl false)) .nil) .nil) (.cons (.ret (.andv (.call "_law_apart" (.cons (.var 0) .nil)) (.call "_law_walked" (.cons (.var 0) (.cons (.var 1) .nil))))) .nil))))
/-- law(script); slots 0:script 1:head 2:width 3:wide 4:upto 5:forms 6:k 7:turn 8:form 9:shape 10:machine 11:handed 12:told -/
def c_law : Cms := (.cons (.set 1 (.call "_law_digits" (.cons (.call "_law_cell" (.cons (.var 0) (.cons (.int 0) .nil))) (.cons (.lst (.cons (.int 6) (.cons (.int 24) (.cons (.int 4) .nil)))) .nil)))) (.cons (.set 2 (.idx (.lst (.cons (.int 1) (.cons (.int 1) (.cons (.int 1) (.cons (.int 2) (.cons (.int 2) (.cons (.int 3) .nil))))))) (.idx (.var 1) (.int 0)))) (.cons (.set 3 (.idx (.lst (.cons (.int 2) (.cons (.int 4) (.cons (.int 8) .nil)))) (.bin .sub (.var 2) (.int 1)))) (.cons (.set 4 (.idx (.lst (.cons (.int 8) (.cons (.int 32) .nil))) (.fn1 .int (.cmp .lt (.idx (.var 1) (.int 1)) (.int 4))))) (.cons (.ite (.val (.cmp .eq (.idx (.var 1) (.int 1)) (.int 11))) (.cons (.set 4 (.int 300)) .nil) .nil) (.cons (.set 5 (.lst (.cons (.call "_law_form" (.cons (.call "_law_digits" (.cons (.call "_law_cell" (.cons (.var 0) (.cons (.int 1) .nil))) (.cons (.call "_law_sizes" (.cons (.var 3) (.cons (.var 4) .nil))) .nil))) (.cons (.var 3) .nil))) .nil))) (.cons (.for_ (.nm 6) (.rng1 (.int 2)) (.cons (.app 5 (.call "_law_form" (.cons (.call "_law_digits" (.cons (.call "_law_cell" (.cons (.var 0) (.cons (.bin .add (.int 2) (.var 6)) .nil))) (.cons (.call "_law_sizes" (.cons (.var 3) (.cons (.int 8) .nil))) .nil))) (.cons (.var 3) .nil)))) .nil)) (.cons (.ite (.val (.cmp .eq (.idx (.var 1) (.int 1)) (.int 7))) (.cons (.setIx 5 (.int 0) (.call "_law_large" (.cons (.call "_law_digits" (.cons (.call "_law_cell" (.cons (.var 0) (.cons (.int 4) .nil))) (.cons (.bin .add (.bin .add (.lst (.cons (.int 4) (.cons (.int 200) .nil))) (.bin .mul (.lst (.cons (.int 7) (.cons (.int 300) .nil))) (.var 3))) (.lst (.cons (.int 12) (.cons (.int 12) .nil)))) .nil))) (.cons (.var 3) .nil)))) .nil) .nil) (.cons (.for_ (.nm 7) (.rng1 (.int 5)) (.cons (.set 8 (.idx (.var 5) (.idx (.lst (.cons (.int 1) (.cons (.int 2) (.cons (.int 0) (.cons (.int 1) (.cons (.int 2) .nil)))))) (.var 7)))) (.cons (.set 9 (.bin .mod (.fn1 .int (.bin .add (.bin .add (.idx (.var 1) (.int 2)) (.var 7)) (.bin .mul (.int 2) (.bin .fdiv (.var 7) (.int 3))))) (.int 4))) (.cons (.set 10 (.call "_law_machine" (.cons (.var 8) .nil))) (.cons (.set 11 (.call "_law_shaped" (.cons (.var 8) (.cons (.var 9) .nil)))) (.cons (.set 12 (.call "least_form" (.cons (.var 11) (.cons (.var 2) .nil)))) (.cons (.ite (.or (.val (.cmp .ne (.var 11) (.call "_law_shaped" (.cons (.var 8) (.cons (.var 9) .nil))))) (.not (.val (.call "_law_is_least" (.cons (.var 12) (.cons (.var 10) (.cons (.var 3) .nil))))))) (.cons (.ret (.bl false)) .nil) .nil) (.cons (.ite (.and (.val (.cmp .le (.fn1 .len (.var 12)) (.int 300))) (.not (.val (.call "_law_is_least" (.cons (.call "least_form" (.cons (.var 12) (.cons (.var 2) .nil))) (.cons (.var 10) (.cons (.var 3) .nil))))))) (.cons (.ret (.bl false)) .nil) .nil) .nil)))))))) (.cons (.ret (.bl true)) .nil))))))))))
end Vi
set_option Elab.async false
set_option linter.all false
set_option maxRecDepth 100000
namespace Vi
open PySem PySem.Spec PyProof.Rows L2
def top (i : Nat) : Stmt := PySem.Challenge.pw_halvedloads_k51_least_form.main.body.getD i (.Pass ⟨0, 0, 0, 0⟩)
def n_frozen : List Str := ["value", "item"]
def p_frozen : List Str := ["value"]
theorem k_frozen : chkCs n_frozen 80 (defScope (top 1)) c_frozen (defBody (top 1)) = true := by decide +kernel
theorem s_frozen : FnScope n_frozen p_frozen (defScope (top 1)) := ⟨rfl, rfl, rfl, by decide +kernel, rfl, by decide +kernel, by decide +kernel⟩
def n_least_form : List Str := ["form", "width"]
def p_least_form : List Str := ["form", "width"]
theorem k_least_form : chkCs n_least_form 80 (defScope (top 3)) c_least_form (defBody (top 3)) = true := by decide +kernel
theorem s_least_form : FnScope n_least_form p_least_form (defScope (top 3)) := ⟨rfl, rfl, rfl, by decide +kernel, rfl, by decide +kernel, by decide +kernel⟩
def n_least_of : List Str := ["form", "ready", "met", "least"]
def p_least_of : List Str := ["form"]
theorem k_least_of : chkCs n_least_of 80 (defScope (top 4)) c_least_of (defBody (top 4)) = true := by decide +kernel
theorem s_least_of : FnScope n_least_of p_least_of (defScope (top 4)) := ⟨rfl, rfl, rfl, by decide +kernel, rfl, by decide +kernel, by decide +kernel⟩
def n_with_start : List Str := ["form", "moved", "move", "ends", "moves", "start"]
def p_with_start : List Str := ["form"]
theorem k_with_start : chkCs n_with_start 80 (defScope (top 5)) c_with_start (defBody (top 5)) = true := by decide +kernel
theorem s_with_start : FnScope n_with_start p_with_start (defScope (top 5)) := ⟨rfl, rfl, rfl, by decide +kernel, rfl, by decide +kernel, by decide +kernel⟩
def n_met_states : List Str := ["form", "known", "met", "at", "move"]
def p_met_states : List Str := ["form"]
theorem k_met_states : chkCs n_met_states 80 (defScope (top 6)) c_met_states (defBody (top 6)) = true := by decide +kernel
theorem s_met_states : FnScope n_met_states p_met_states (defScope (top 6)) := ⟨rfl, rfl, rfl, by decide +kernel, rfl, by decide +kernel, by decide +kernel⟩
def n_renumbered : List Str := ["form", "met", "numbers", "k", "move", "state"]
def p_renumbered : List Str := ["form", "met"]
theorem k_renumbered : chkCs n_renumbered 80 (defScope (top 7)) c_renumbered (defBody (top 7)) = true := by decide +kernel
theorem s_renumbered : FnScope n_renumbered p_renumbered (defScope (top 7)) := ⟨rfl, rfl, rfl, by decide +kernel, rfl, by decide +kernel, by decide +kernel⟩
def n_like_classes : List Str := ["form", "classes", "ends", "moves", "finer"]
def p_like_classes : List Str := ["form"]
theorem k_like_classes : chkCs n_like_classes 80 (defScope (top 8)) c_like_classes (defBody (top 8)) = true := by decide +kernel
theorem s_like_classes : FnScope n_like_classes p_like_classes (defScope (top 8)) := ⟨rfl, rfl, rfl, by decide +kernel, rfl, by decide +kernel, by decide +kernel⟩
def n_split_classes : List Str := ["form", "classes", "signs", "move", "k"]
def p_split_classes : List Str := ["form", "classes"]
theorem k_split_classes : chkCs n_split_classes 80 (defScope (top 9)) c_split_classes (defBody (top 9)) = true := by decide +kernel
theorem s_split_classes : FnScope n_split_classes p_split_classes (defScope (top 9)) := ⟨rfl, rfl, rfl, by decide +kernel, rfl, by decide +kernel, by decide +kernel⟩
def n_numbered : List Str := ["marks", "numbers", "mark"]
def p_numbered : List Str := ["marks"]
theorem k_numbered : chkCs n_numbered 80 (defScope (top 10)) c_numbered (defBody (top 10)) = true := by decide +kernel
theorem s_numbered : FnScope n_numbered p_numbered (defScope (top 10)) := ⟨rfl, rfl, rfl, by decide +kernel, rfl, by decide +kernel, by decide +kernel⟩
def n_joined : List Str := ["form", "classes", "first", "k", "move"]
def p_joined : List Str := ["form", "classes"]
theorem k_joined : chkCs n_joined 80 (defScope (top 11)) c_joined (defBody (top 11)) = true := by decide +kernel
theorem s_joined : FnScope n_joined p_joined (defScope (top 11)) := ⟨rfl, rfl, rfl, by decide +kernel, rfl, by decide +kernel, by decide +kernel⟩
def n_law_whole : List Str := ["value"]
def p_law_whole : List Str := ["value"]
theorem k_law_whole : chkCs n_law_whole 80 (defScope (top 13)) c_law_whole (defBody (top 13)) = true := by decide +kernel
theorem s_law_whole : FnScope n_law_whole p_law_whole (defScope (top 13)) := ⟨rfl, rfl, rfl, by decide +kernel, rfl, by decide +kernel, by decide +kernel⟩
def n_law_cell : List Str := ["script", "k", "seed", "cell"]
def p_law_cell : List Str := ["script", "k"]
theorem k_law_cell : chkCs n_law_cell 80 (defScope (top 14)) c_law_cell (defBody (top 14)) = true := by decide +kernel
theorem s_law_cell : FnScope n_law_cell p_law_cell (defScope (top 14)) := ⟨rfl, rfl, rfl, by decide +kernel, rfl, by decide +kernel, by decide +kernel⟩
def n_law_digits : List Str := ["cell", "sizes", "row", "rest", "size", "seed", "k", "twice"]
def p_law_digits : List Str := ["cell", "sizes"]
theorem k_law_digits : chkCs n_law_digits 80 (defScope (top 15)) c_law_digits (defBody (top 15)) = true := by decide +kernel
theorem s_law_digits : FnScope n_law_digits p_law_digits (defScope (top 15)) := ⟨rfl, rfl, rfl, by decide +kernel, rfl, by decide +kernel, by decide +kernel⟩
def n_law_sizes : List Str := ["wide", "upto"]
def p_law_sizes : List Str := ["wide", "upto"]
theorem k_law_sizes : chkCs n_law_sizes 80 (defScope (top 16)) c_law_sizes (defBody (top 16)) = true := by decide +kernel
theorem s_law_sizes : FnScope n_law_sizes p_law_sizes (defScope (top 16)) := ⟨rfl, rfl, rfl, by decide +kernel, rfl, by decide +kernel, by decide +kernel⟩
def n_law_form : List Str := ["row", "wide", "upto", "many", "lively", "marks", "k", "half", "cores", "form", "ends", "digits", "moves", "digit", "core", "j"]
def p_law_form : List Str := ["row", "wide"]
theorem k_law_form : chkCs n_law_form 80 (defScope (top 17)) c_law_form (defBody (top 17)) = true := by decide +kernel
theorem s_law_form : FnScope n_law_form p_law_form (defScope (top 17)) := ⟨rfl, rfl, rfl, by decide +kernel, rfl, by decide +kernel, by decide +kernel⟩
def n_law_large : List Str := ["row", "wide", "many", "form", "k", "ends", "moves", "j"]
def p_law_large : List Str := ["row", "wide"]
theorem k_law_large : chkCs n_law_large 80 (defScope (top 18)) c_law_large (defBody (top 18)) = true := by decide +kernel
theorem s_law_large : FnScope n_law_large p_law_large (defScope (top 18)) := ⟨rfl, rfl, rfl, by decide +kernel, rfl, by decide +kernel, by decide +kernel⟩
def n_law_shaped : List Str := ["form", "shape", "state"]
def p_law_shaped : List Str := ["form", "shape"]
theorem k_law_shaped : chkCs n_law_shaped 80 (defScope (top 19)) c_law_shaped (defBody (top 19)) = true := by decide +kernel
theorem s_law_shaped : FnScope n_law_shaped p_law_shaped (defScope (top 19)) := ⟨rfl, rfl, rfl, by decide +kernel, rfl, by decide +kernel, by decide +kernel⟩
def n_law_machine : List Str := ["form", "states", "move", "state"]
def p_law_machine : List Str := ["form"]
theorem k_law_machine : chkCs n_law_machine 80 (defScope (top 20)) c_law_machine (defBody (top 20)) = true := by decide +kernel
theorem s_law_machine : FnScope n_law_machine p_law_machine (defScope (top 20)) := ⟨rfl, rfl, rfl, by decide +kernel, rfl, by decide +kernel, by decide +kernel⟩
def n_law_counted : List Str := ["told", "met", "k", "move"]
def p_law_counted : List Str := ["told"]
theorem k_law_counted : chkCs n_law_counted 80 (defScope (top 21)) c_law_counted (defBody (top 21)) = true := by decide +kernel
theorem s_law_counted : FnScope n_law_counted p_law_counted (defScope (top 21)) := ⟨rfl, rfl, rfl, by decide +kernel, rfl, by decide +kernel, by decide +kernel⟩
def n_law_apart : List Str := ["told", "marks", "state", "many", "turn", "places", "fresh", "k", "mark", "move"]
def p_law_apart : List Str := ["told"]
theorem k_law_apart : chkCs n_law_apart 80 (defScope (top 22)) c_law_apart (defBody (top 22)) = true := by decide +kernel
theorem s_law_apart : FnScope n_law_apart p_law_apart (defScope (top 22)) := ⟨rfl, rfl, rfl, by decide +kernel, rfl, by decide +kernel, by decide +kernel⟩
def n_law_walked : List Str := ["told", "machine", "partner", "k", "waiting", "at", "mine", "j", "target", "due"]
def p_law_walked : List Str := ["told", "machine"]
theorem k_law_walked : chkCs n_law_walked 80 (defScope (top 23)) c_law_walked (defBody (top 23)) = true := by decide +kernel
theorem s_law_walked : FnScope n_law_walked p_law_walked (defScope (top 23)) := ⟨rfl, rfl, rfl, by decide +kernel, rfl, by decide +kernel, by decide +kernel⟩
def n_law_is_least : List Str := ["told", "machine", "wide", "state", "move"]
def p_law_is_least : List Str := ["told", "machine", "wide"]
theorem k_law_is_least : chkCs n_law_is_least 80 (defScope (top 24)) c_law_is_least (defBody (top 24)) = true := by decide +kernel
theorem s_law_is_least : FnScope n_law_is_least p_law_is_least (defScope (top 24)) := ⟨rfl, rfl, rfl, by decide +kernel, rfl, by decide +kernel, by decide +kernel⟩
def n_law : List Str := ["script", "head", "width", "wide", "upto", "forms", "k", "turn", "form", "shape", "machine", "handed", "told"]
def p_law : List Str := ["script"]
theorem k_law : chkCs n_law 80 (defScope (top 25)) c_law (defBody (top 25)) = true := by decide +kernel
theorem s_law : FnScope n_law p_law (defScope (top 25)) := ⟨rfl, rfl, rfl, by decide +kernel, rfl, by decide +kernel, by decide +kernel⟩
end Vi
set_option Elab.async false
set_option linter.all false
set_option maxRecDepth 100000
/-! ViP: the meaning, row by row, for plain proofs. -/
namespace Vi
open PySem
section
variable {G : Str → Option (Nat × Ctr)} {E : XD → VE → Prop} {env : VE} {Q : R → VE → Prop} {a b c : Ex}
theorem w_var {i : Nat} : wE G E (.var i) env Q = (match env[i]? with | some (some r) => Q (false, r.2) (env.set i (some (false, r.2))) | _ => False) := rfl
theorem w_non : wE G E .non env Q = Q (false, .non) env := rfl
theorem w_bl {b : Bool} : wE G E (.bl b) env Q = Q (false, .bl b) env := rfl
theorem w_int {i : Int} : wE G E (.int i) env Q = Q (false, .int i) env := rfl
theorem w_str {x : Str} : wE G E (.str x) env Q = Q (false, .str x) env := rfl
theorem w_tup {es : Exs} : wE G E (.tup es) env Q = wEs G E es env fun ds e => ds.length ≤ sizeLine ∧ Q (false, .tup ds) e := rfl
theorem w_lst {es : Exs} : wE G E (.lst es) env Q = wEs G E es env fun ds e => ds.length ≤ sizeLine ∧ Q (true, .lst ds) e := rfl
theorem w_bin {o : Bo} : wE G E (.bin o a b) env Q = bor a (wE G E a) env fun x e1 => bor b (wE G E b) e1 fun y e2 => wBin o x y fun r => Q r e2 := rfl
theorem w_cmp {o : Co} : wE G E (.cmp o a b) env Q = bor a (wE G E a) env fun x e1 => bor b (wE G E b) e1 fun y e2 => wCmp o x y fun r => Q (false, .bl r) e2 := rfl
theorem w_chain {o o' : Co} : wE G E (.chain o o' a b c) env Q = bor a (wE G E a) env fun x e1 => bor b (wE G E b) e1 fun y e2 => wCmp o x y fun r =>
      if r = true then bor c (wE G E c) e2 fun z e3 => wCmp o' y z fun r => Q (false, .bl r) e3 else Q (false, .bl false) e2 := rfl
theorem w_neg : wE G E (.neg a) env Q = bor a (wE G E a) env fun x e1 => (match x with | .int i => Q (false, .int (-i)) e1 | _ => False) := rfl
theorem w_notv : wE G E (.notv a) env Q = bor a (wE G E a) env fun x e1 => (match x with | .bl b => Q (false, .bl (!b)) e1 | _ => False) := rfl
theorem w_andv : wE G E (.andv a b) env Q = bor a (wE G E a) env fun x e1 => (match x with | .bl c => if c = true then wE G E b e1 Q else Q (false, .bl false) e1 | _ => False) := rfl
theorem w_orv : wE G E (.orv a b) env Q = bor a (wE G E a) env fun x e1 => (match x with | .bl c => if c = true then Q (false, .bl true) e1 else wE G E b e1 Q | _ => False) := rfl
theorem w_ife {t : Tx} : wE G E (.ife t a b) env Q = wT G E t env fun c e1 => if c = true then wE G E a e1 Q else wE G E b e1 Q := rfl
theorem w_idx : wE G E (.idx a b) env Q = bor a (wE G E a) env fun x e1 => bor b (wE G E b) e1 fun y e2 => wIdx x y fun d => Q (false, d) e2 := rfl
theorem w_slc {lo hi : Ox} : wE G E (.slc a lo hi) env Q = bor a (wE G E a) env fun x e1 => wO G E lo e1 fun l e2 => wO G E hi e2 fun h e3 => wSlc x l h fun r => Q r e3 := rfl
theorem w_call {f : Str} {es : Exs} : wE G E (.call f es) env Q = ∃ c, G f = some c ∧ wEs G E es env fun ds e => ds.length = c.1 ∧ c.2 ds (fun r => Q r e) fun x => E x e := rfl
theorem w_fn1 {f : F1} : wE G E (.fn1 f a) env Q = bor a (wE G E a) env fun x e1 => wFn1 f x fun r => Q r e1 := rfl
theorem w_fn2 {f : F2} : wE G E (.fn2 f a b) env Q = bor a (wE G E a) env fun x e1 => bor b (wE G E b) e1 fun y e2 => wFn2 f x y fun r => Q r e2 := rfl
theorem w_isi {t : String} : wE G E (.isi a t) env Q = bor a (wE G E a) env fun x e1 => isPl x = true ∧ ∃ b, L2.kitB (tyN x) t = some b ∧ Q (false, .bl b) e1 := rfl
theorem w_isiT {ts : List String} : wE G E (.isiT a ts) env Q = bor a (wE G E a) env fun x e1 => isPl x = true ∧ ∃ b, kitA (tyN x) ts = some b ∧ Q (false, .bl b) e1 := rfl
theorem w_lc {fz : List Nat} {elt : Ex} {tg : Tg} {it : Itx} {cond : Txs} : wE G E (.lc fz elt tg it cond) env Q = wI G E it (frzL env fz) fun items e1 =>
      ∃ I : Nat → List D → Prop, I 0 [] ∧
        (∀ i d acc, items[i]? = some d → I i acc → bindT tg d (wipeE e1 tg.slots) fun e2 => wTxs G E cond e2 fun c e3 => e3 = e2 ∧
          if c = true then wE G E elt e3 fun r e4 => e4 = e2 ∧ acc.length < sizeLine ∧ I (i + 1) (acc ++ [r.2]) else I (i + 1) acc) ∧
        ∀ acc, I items.length acc → Q (true, .lst acc) e1 := rfl
theorem w_dc {fz : List Nat} {k v : Ex} {tg : Tg} {it : Itx} : wE G E (.dc fz k v tg it) env Q = wI G E it (frzL env fz) fun items e1 =>
      ∃ I : Nat → List D → List D → Prop, I 0 [] [] ∧
        (∀ i d ks vs, items[i]? = some d → I i ks vs → bindT tg d (wipeE e1 tg.slots) fun e2 => wE G E k e2 fun r e3 => e3 = e2 ∧ wE G E v e3 fun r' e4 => e4 = e2 ∧
          KeyOk ks r.2 ∧ kd r.2 = 0 ∧ ks.length < sizeLine ∧ I (i + 1) (dputK ks r.2) (dputV ks vs r.2 r'.2)) ∧
        ∀ ks vs, I items.length ks vs → Q (true, .dct ks vs) e1 := rfl
theorem w_dnew : wE G E .dnew env Q = Q (true, .dct [] []) env := rfl
theorem w_dnew1 {k v : Ex} : wE G E (.dnew1 k v) env Q = wE G E k env fun r e1 => wE G E v e1 fun r' e2 => kd r.2 = 0 ∧ Q (true, .dct [r.2] [r'.2]) e2 := rfl
theorem w_nil {Q : List D → VE → Prop} : wEs G E .nil env Q = Q [] env := rfl
theorem w_cons {es : Exs} {Q : List D → VE → Prop} : wEs G E (.cons a es) env Q = wE G E a env fun r e1 => wEs G E es e1 fun ds e2 => Q (r.2 :: ds) e2 := rfl
theorem w_onone {Q : Option Int → VE → Prop} : wO G E .none env Q = Q none env := rfl
theorem w_osome {Q : Option Int → VE → Prop} : wO G E (.some a) env Q = bor a (wE G E a) env fun x e1 => (match x with | .int i => Q (some i) e1 | _ => False) := rfl
theorem w_val {Q : Bool → VE → Prop} : wT G E (.val a) env Q = bor a (wE G E a) env fun x e1 => truth x fun b => Q b e1 := rfl
theorem w_not {t : Tx} {Q : Bool → VE → Prop} : wT G E (.not t) env Q = wT G E t env fun b e1 => Q (!b) e1 := rfl
theorem w_and {s t : Tx} {Q : Bool → VE → Prop} : wT G E (.and s t) env Q = wT G E s env fun c e1 => if c = true then wT G E t e1 Q else Q false e1 := rfl
theorem w_or {s t : Tx} {Q : Bool → VE → Prop} : wT G E (.or s t) env Q = wT G E s env fun c e1 => if c = true then Q true e1 else wT G E t e1 Q := rfl
theorem w_tnone {Q : Bool → VE → Prop} : wTxs G E .none env Q = Q true env := rfl
theorem w_tone {t : Tx} {Q : Bool → VE → Prop} : wTxs G E (.one t) env Q = wT G E t env Q := rfl
theorem w_seq {Q : List D → VE → Prop} : wI G E (.seq a) env Q = bor a (wE G E a) env fun x e1 => (match x with | .lst ds => Q ds e1 | .tup ds => Q ds e1 | _ => False) := rfl
/-- the items of a tuple or a list -/
def seqOf : D → Option (List D)
  | .tup ds => some ds
  | .lst ds => some ds
  | _ => none
theorem w_seqO {Q : List D → VE → Prop} : wI G E (.seq a) env Q ↔ bor a (wE G E a) env fun x e1 => ∃ ds, seqOf x = some ds ∧ Q ds e1 := by
  have e : ∀ (x : D) (e1 : VE), (match x with | .lst ds => Q ds e1 | .tup ds => Q ds e1 | _ => False) = ∃ ds, seqOf x = some ds ∧ Q ds e1 := fun x e1 => by
    cases x <;> simp [seqOf]
  rw [w_seq]
  have e' : (fun (x : D) (e1 : VE) => (match x with | .lst ds => Q ds e1 | .tup ds => Q ds e1 | _ => False)) = fun x e1 => ∃ ds, seqOf x = some ds ∧ Q ds e1 := funext fun x => funext fun e1 => e x e1
  rw [e']
theorem w_rng1 {Q : List D → VE → Prop} : wI G E (.rng1 a) env Q = bor a (wE G E a) env fun x e1 => (match x with
    | .int j => -(2 ^ 62) ≤ j ∧ j < 2 ^ 62 ∧ Q ((List.range j.toNat).map fun (k : Nat) => D.int (k : Int)) e1
    | _ => False) := rfl
theorem w_rng2 {Q : List D → VE → Prop} : wI G E (.rng2 a b) env Q = bor a (wE G E a) env fun x e1 => bor b (wE G E b) e1 fun y e2 => (match x, y with
    | .int i, .int j => (-(2 ^ 62) ≤ i ∧ i < 2 ^ 62 ∧ -(2 ^ 62) ≤ j ∧ j < 2 ^ 62) ∧ Q ((List.range (j - i).toNat).map fun (k : Nat) => D.int (i + (k : Int))) e2
    | _, _ => False) := rfl
theorem w_vals {Q : List D → VE → Prop} : wI G E (.vals a) env Q = bor a (wE G E a) env fun x e1 => (match x with | .dct ks vs => Q vs e1 | _ => False) := rfl
variable {K : KE}
theorem c_set {i : Nat} : wC G E (.set i a) env K = wE G E a env fun r e1 => K.nx (e1.set i (some r)) := rfl
theorem c_setT {is : List Nat} : wC G E (.setT is a) env K = wE G E a env fun r e1 => bindT (.tp is) r.2 e1 K.nx := rfl
theorem c_setIx {i : Nat} {k : Ex} : wC G E (.setIx i k a) env K = wE G E a env fun r e1 => (∃ r0, e1[i]? = some (some r0)) ∧ bor k (wE G E k) e1 fun y e2 => (match e2[i]? with
    | some (some (true, .lst ds)) => (match y with
      | .int n => ∃ j, L2.ixN ds.length n = some j ∧ K.nx (e2.set i (some (true, .lst (ds.set j r.2))))
      | _ => False)
    | some (some (true, .dct ks vs)) => KeyOk ks y ∧ ks.length < sizeLine ∧ K.nx (e2.set i (some (true, .dct (dputK ks y) (dputV ks vs y r.2))))
    | _ => False) := rfl
theorem c_app {i : Nat} : wC G E (.app i a) env K = (match env[i]? with
    | some (some (true, .lst ds)) => wE G E a env fun r e1 => e1[i]? = some (some (true, .lst ds)) ∧ ds.length < sizeLine ∧ K.nx (e1.set i (some (true, .lst (ds ++ [r.2]))))
    | _ => False) := rfl
theorem c_ex : wC G E (.ex a) env K = wE G E a env fun _ e1 => K.nx e1 := rfl
theorem c_retV {i : Nat} : wC G E (.ret (.var i)) env K = (match env[i]? with
      | some (some r) => K.rt r
      | _ => False) := rfl
theorem c_retN : wC G E .retN env K = K.rt (false, .non) := rfl
theorem c_ite {t : Tx} {a b : Cms} : wC G E (.ite t a b) env K = wT G E t env fun c e1 => if c = true then wCs G E a e1 K else wCs G E b e1 K := rfl
theorem c_for {tg : Tg} {it : Itx} {body : Cms} : wC G E (.for_ tg it body) env K = wI G E it (frzL env (itFz it)) fun items e1 =>
      ∃ I : Nat → VE → Prop, I 0 e1 ∧
        (∀ i d e, items[i]? = some d → I i e → bindT tg d e fun e2 => wCs G E body e2 { K with nx := I (i + 1), ct := I (i + 1), bk := K.nx }) ∧
        ∀ e, I items.length e → K.nx e := rfl
theorem c_while {t : Tx} {body : Cms} : wC G E (.while_ t body) env K = ∃ I : Nat → VE → Prop, (∃ m, I m env) ∧
      ∀ m e, I m e → wT G E t e fun c e1 => if c = true then wCs G E body e1 { K with nx := fun e2 => ∃ m', m' < m ∧ I m' e2, ct := fun e2 => ∃ m', m' < m ∧ I m' e2, bk := K.nx } else K.nx e1 := rfl
theorem c_brk : wC G E .brk env K = K.bk env := rfl
theorem c_cont : wC G E .cont env K = K.ct env := rfl
theorem c_pass : wC G E .pass env K = K.nx env := rfl
theorem cs_nil' : wCs G E .nil env K = K.nx env := rfl
theorem cs_cons' {x : Cm} {xs : Cms} : wCs G E (.cons x xs) env K = wC G E x env { K with nx := fun e => wCs G E xs e K } := rfl
end
section
variable {b : Bool} {i : Int} {x : Str} {es : Exs} {o : Bo} {o2 o3 : Co} {a b c : Ex} {t : Tx} {l h : Ox} {f : F1} {f2 : F2} {n : String} {ns : List String} {fz : List Nat} {tg : Tg} {it : Itx} {cond : Txs} {w : VE → (R → VE → Prop) → Prop} {env : VE} {Q : D → VE → Prop}
theorem b_non : bor (.non) w env Q = w env fun r e => Q r.2 e := rfl
theorem b_bl {b : Bool} : bor (.bl b) w env Q = w env fun r e => Q r.2 e := rfl
theorem b_int : bor (.int i) w env Q = w env fun r e => Q r.2 e := rfl
theorem b_str : bor (.str x) w env Q = w env fun r e => Q r.2 e := rfl
theorem b_tup : bor (.tup es) w env Q = w env fun r e => Q r.2 e := rfl
theorem b_lst : bor (.lst es) w env Q = w env fun r e => Q r.2 e := rfl
theorem b_bin : bor (.bin o a b) w env Q = w env fun r e => Q r.2 e := rfl
theorem b_cmp : bor (.cmp o2 a b) w env Q = w env fun r e => Q r.2 e := rfl
theorem b_chain : bor (.chain o2 o3 a b c) w env Q = w env fun r e => Q r.2 e := rfl
theorem b_neg : bor (.neg a) w env Q = w env fun r e => Q r.2 e := rfl
theorem b_notv : bor (.notv a) w env Q = w env fun r e => Q r.2 e := rfl
theorem b_andv : bor (.andv a b) w env Q = w env fun r e => Q r.2 e := rfl
theorem b_orv : bor (.orv a b) w env Q = w env fun r e => Q r.2 e := rfl
theorem b_ife : bor (.ife t a b) w env Q = w env fun r e => Q r.2 e := rfl
theorem b_idx : bor (.idx a b) w env Q = w env fun r e => Q r.2 e := rfl
theorem b_slc : bor (.slc a l h) w env Q = w env fun r e => Q r.2 e := rfl
theorem b_call : bor (.call x es) w env Q = w env fun r e => Q r.2 e := rfl
theorem b_fn1 : bor (.fn1 f a) w env Q = w env fun r e => Q r.2 e := rfl
theorem b_fn2 : bor (.fn2 f2 a b) w env Q = w env fun r e => Q r.2 e := rfl
theorem b_isi : bor (.isi a n) w env Q = w env fun r e => Q r.2 e := rfl
theorem b_isiT : bor (.isiT a ns) w env Q = w env fun r e => Q r.2 e := rfl
theorem b_lc : bor (.lc fz a tg it cond) w env Q = w env fun r e => Q r.2 e := rfl
theorem b_dc : bor (.dc fz a b tg it) w env Q = w env fun r e => Q r.2 e := rfl
theorem b_dnew : bor (.dnew) w env Q = w env fun r e => Q r.2 e := rfl
theorem b_dnew1 : bor (.dnew1 a b) w env Q = w env fun r e => Q r.2 e := rfl
end
theorem b_var {i : Nat} {w : VE → (R → VE → Prop) → Prop} {env : VE} {Q : D → VE → Prop} : bor (.var i) w env Q = (match env[i]? with | some (some r) => Q r.2 env | _ => False) := rfl
section
variable {G : Str → Option (Nat × Ctr)} {E : XD → VE → Prop} {env : VE} {K : KE} {b : Bool} {i : Int} {x : Str} {es : Exs} {o : Bo} {o2 o3 : Co} {a b c : Ex} {t : Tx} {l h : Ox} {f : F1} {f2 : F2} {n : String} {ns : List String} {fz : List Nat} {tg : Tg} {it : Itx} {cond : Txs}
theorem r_non : wC G E (.ret (.non)) env K = wE G E (.non) env fun r _ => K.rt r := rfl
theorem r_bl {b : Bool} : wC G E (.ret (.bl b)) env K = wE G E (.bl b) env fun r _ => K.rt r := rfl
theorem r_int : wC G E (.ret (.int i)) env K = wE G E (.int i) env fun r _ => K.rt r := rfl
theorem r_str : wC G E (.ret (.str x)) env K = wE G E (.str x) env fun r _ => K.rt r := rfl
theorem r_tup : wC G E (.ret (.tup es)) env K = wE G E (.tup es) env fun r _ => K.rt r := rfl
theorem r_lst : wC G E (.ret (.lst es)) env K = wE G E (.lst es) env fun r _ => K.rt r := rfl
theorem r_bin : wC G E (.ret (.bin o a b)) env K = wE G E (.bin o a b) env fun r _ => K.rt r := rfl
theorem r_cmp : wC G E (.ret (.cmp o2 a b)) env K = wE G E (.cmp o2 a b) env fun r _ => K.rt r := rfl
theorem r_chain : wC G E (.ret (.chain o2 o3 a b c)) env K = wE G E (.chain o2 o3 a b c) env fun r _ => K.rt r := rfl
theorem r_neg : wC G E (.ret (.neg a)) env K = wE G E (.neg a) env fun r _ => K.rt r := rfl
theorem r_notv : wC G E (.ret (.notv a)) env K = wE G E (.notv a) env fun r _ => K.rt r := rfl
theorem r_andv : wC G E (.ret (.andv a b)) env K = wE G E (.andv a b) env fun r _ => K.rt r := rfl
theorem r_orv : wC G E (.ret (.orv a b)) env K = wE G E (.orv a b) env fun r _ => K.rt r := rfl
theorem r_ife : wC G E (.ret (.ife t a b)) env K = wE G E (.ife t a b) env fun r _ => K.rt r := rfl
theorem r_idx : wC G E (.ret (.idx a b)) env K = wE G E (.idx a b) env fun r _ => K.rt r := rfl
theorem r_slc : wC G E (.ret (.slc a l h)) env K = wE G E (.slc a l h) env fun r _ => K.rt r := rfl
theorem r_call : wC G E (.ret (.call x es)) env K = wE G E (.call x es) env fun r _ => K.rt r := rfl
theorem r_fn1 : wC G E (.ret (.fn1 f a)) env K = wE G E (.fn1 f a) env fun r _ => K.rt r := rfl
theorem r_fn2 : wC G E (.ret (.fn2 f2 a b)) env K = wE G E (.fn2 f2 a b) env fun r _ => K.rt r := rfl
theorem r_isi : wC G E (.ret (.isi a n)) env K = wE G E (.isi a n) env fun r _ => K.rt r := rfl
theorem r_isiT : wC G E (.ret (.isiT a ns)) env K = wE G E (.isiT a ns) env fun r _ => K.rt r := rfl
theorem r_lc : wC G E (.ret (.lc fz a tg it cond)) env K = wE G E (.lc fz a tg it cond) env fun r _ => K.rt r := rfl
theorem r_dc : wC G E (.ret (.dc fz a b tg it)) env K = wE G E (.dc fz a b tg it) env fun r _ => K.rt r := rfl
theorem r_dnew : wC G E (.ret (.dnew)) env K = wE G E (.dnew) env fun r _ => K.rt r := rfl
theorem r_dnew1 : wC G E (.ret (.dnew1 a b)) env K = wE G E (.dnew1 a b) env fun r _ => K.rt r := rfl
end
/-! ### operations -/
section
variable {a b i j : Int} {x y : D} {ds es ks vs : List D} {p q : Bool} {u v : Str} {Q : R → Prop} {P : Bool → Prop} {W : D → Prop}
theorem o_addI : wBin .add (.int a) (.int b) Q = Q (false, .int (a + b)) := rfl
theorem o_addT : wBin .add (.tup ds) (.tup es) Q = (ds ≠ [] ∧ ds.length + es.length ≤ sizeLine ∧ Q (false, .tup (ds ++ es))) := rfl
theorem o_addL : wBin .add (.lst ds) (.lst es) Q = (ds.length + es.length ≤ sizeLine ∧ Q (true, .lst (ds ++ es))) := rfl
theorem o_sub : wBin .sub (.int a) (.int b) Q = Q (false, .int (a - b)) := rfl
theorem o_mulI : wBin .mul (.int a) (.int b) Q = (L2.CMul a b ∧ Q (false, .int (a * b))) := rfl
theorem o_mulL : wBin .mul (.lst ds) (.int b) Q = (-(2 ^ 63) ≤ b ∧ b < 2 ^ 63 ∧ ds.length * b.toNat ≤ sizeLine ∧ Q (true, .lst (List.replicate b.toNat ds).flatten)) := rfl
theorem o_fdiv : wBin .fdiv (.int a) (.int b) Q = (L2.CDiv a b ∧ Q (false, .int (a / b))) := rfl
theorem o_mod : wBin .mod (.int a) (.int b) Q = (0 < b ∧ Q (false, .int (a % b))) := rfl
theorem o_pow : wBin .pow (.int a) (.int b) Q = (L2.CPow a b ∧ Q (false, .int (a ^ b.toNat))) := rfl
theorem o_lt : wCmp .lt (.int a) (.int b) P = P (decide (a < b)) := rfl
theorem o_le : wCmp .le (.int a) (.int b) P = P (decide (a ≤ b)) := rfl
theorem o_gt : wCmp .gt (.int a) (.int b) P = P (decide (b < a)) := rfl
theorem o_ge : wCmp .ge (.int a) (.int b) P = P (decide (b ≤ a)) := rfl
theorem o_is : wCmp .is_ x y P = (isC y = true ∧ P (isD x y)) := rfl
theorem o_isn : wCmp .isn x y P = (isC y = true ∧ P (!isD x y)) := rfl
theorem o_mem : wCmp .mem x (.dct ks vs) P = (KeyOk ks x ∧ P (dget ks vs x).isSome) := rfl
theorem o_nmem : wCmp .nmem x (.dct ks vs) P = (KeyOk ks x ∧ P (!(dget ks vs x).isSome)) := rfl
theorem o_eqI : wCmp .eq (.int a) (.int b) P ↔ P (decide (a = b)) := by
  show (∃ c, some (decide (a = b)) = some c ∧ P c) ↔ _
  simp
theorem o_neI : wCmp .ne (.int a) (.int b) P ↔ P (!decide (a = b)) := by
  show (∃ c, some (decide (a = b)) = some c ∧ P (!c)) ↔ _
  simp
theorem o_ixL : wIdx (.lst ds) (.int i) W = ∃ d, L2.atI ds i = some d ∧ W d := rfl
theorem o_ixT : wIdx (.tup ds) (.int i) W = ∃ d, L2.atI ds i = some d ∧ W d := rfl
theorem o_ixD : wIdx (.dct ks vs) (.int i) W = (KeyOk ks (.int i) ∧ ∃ d, dget ks vs (.int i) = some d ∧ W d) := rfl
theorem o_ixDt : wIdx (.dct ks vs) (.tup ds) W = (KeyOk ks (.tup ds) ∧ ∃ d, dget ks vs (.tup ds) = some d ∧ W d) := rfl
theorem o_ixDb : wIdx (.dct ks vs) (.bl p) W = (KeyOk ks (.bl p) ∧ ∃ d, dget ks vs (.bl p) = some d ∧ W d) := rfl
theorem o_ixDx {k : D} : wIdx (.dct ks vs) k W = (KeyOk ks k ∧ ∃ d, dget ks vs k = some d ∧ W d) := by cases k <;> rfl
theorem o_slcL {lo hi : Option Int} : wSlc (.lst ds) lo hi Q = Q (true, .lst (cutD ds lo hi)) := rfl
theorem o_slcT {lo hi : Option Int} : wSlc (.tup ds) lo hi Q = (¬ (HT.sIx ds.length 0 lo = 0 ∧ HT.sIx ds.length ds.length hi = ds.length) ∧ Q (false, .tup (cutD ds lo hi))) := rfl
theorem o_lenL : wFn1 .len (.lst ds) Q = Q (false, .int ds.length) := rfl
theorem o_lenT : wFn1 .len (.tup ds) Q = Q (false, .int ds.length) := rfl
theorem o_lenD : wFn1 .len (.dct ks vs) Q = Q (false, .int ks.length) := rfl
theorem o_intI : wFn1 .int (.int a) Q = Q (false, .int a) := rfl
theorem o_intB : wFn1 .int (.bl p) Q = Q (false, .int (if p = true then 1 else 0)) := rfl
theorem o_tupL : wFn1 .tuple (.lst ds) Q = Q (false, .tup ds) := rfl
theorem o_tupT : wFn1 .tuple (.tup ds) Q = Q (false, .tup ds) := rfl
theorem o_lstL : wFn1 .list (.lst ds) Q = Q (true, .lst ds) := rfl
theorem o_lstT : wFn1 .list (.tup ds) Q = Q (true, .lst ds) := rfl
theorem o_maxL : wFn1 .max (.lst ds) Q = ∃ ns, allI ds = some ns ∧ 0 < ns.length ∧ ∀ m, m ∈ ns → (∀ y, y ∈ ns → y ≤ m) → Q (false, .int m) := rfl
theorem o_maxT : wFn1 .max (.tup ds) Q = ∃ ns, allI ds = some ns ∧ 0 < ns.length ∧ ∀ m, m ∈ ns → (∀ y, y ∈ ns → y ≤ m) → Q (false, .int m) := rfl
theorem o_abs : wFn1 .abs (.int a) Q = Q (false, .int (if a < 0 then -a else a)) := rfl
theorem o_max2 : wFn2 .max (.int a) (.int b) Q = Q (false, .int (if b > a then b else a)) := rfl
theorem o_min2 : wFn2 .min (.int a) (.int b) Q = Q (false, .int (if b < a then b else a)) := rfl
theorem o_tN : truth .non P = P false := rfl
theorem o_tB : truth (.bl p) P = P p := rfl
theorem o_tI : truth (.int a) P = P (a != 0) := rfl
theorem o_tL : truth (.lst ds) P = P (!ds.isEmpty) := rfl
theorem o_tT : truth (.tup ds) P = P (!ds.isEmpty) := rfl
theorem o_lenS (h : seqOf x = some ds) : wFn1 .len x Q = Q (false, .int ds.length) := by cases x <;> simp [seqOf] at h <;> subst h <;> rfl
theorem o_ixS (h : seqOf x = some ds) : wIdx x (.int i) W = ∃ d, L2.atI ds i = some d ∧ W d := by cases x <;> simp [seqOf] at h <;> subst h <;> rfl
theorem o_tupS (h : seqOf x = some ds) : wFn1 .tuple x Q = Q (false, .tup ds) := by cases x <;> simp [seqOf] at h <;> subst h <;> rfl
theorem o_lstS (h : seqOf x = some ds) : wFn1 .list x Q = Q (true, .lst ds) := by cases x <;> simp [seqOf] at h <;> subst h <;> rfl
theorem ixN_nat {n k : Nat} (h : k < n) : L2.ixN n (k : Int) = some k := by
  unfold L2.ixN
  rw [if_pos (by omega), if_pos (by omega)]; simp
theorem atI_nat {α : Type} {xs : List α} {n : Nat} (h : n < xs.length) : L2.atI xs (n : Int) = some xs[n] := by
  unfold L2.atI
  rw [ixN_nat h]
  exact List.getElem?_eq_getElem h
theorem atI_get {α : Type} {xs : List α} {n : Nat} {x : α} (h : xs[n]? = some x) : L2.atI xs (n : Int) = some x := by
  obtain ⟨h1, h2⟩ := List.getElem?_eq_some_iff.mp h
  rw [atI_nat h1, h2]
end

/-! ### comprehensions -/
section
variable {G : Str → Option (Nat × Ctr)} {E : XD → VE → Prop} {e1 : VE} {items : List D} {tg : Tg} {elt k v : Ex}
theorem bindTs_mono {P Q : VE → Prop} (h : ∀ e, P e → Q e) : ∀ {is : List Nat} {ds : List D} {e : VE}, bindTs is ds e P → bindTs is ds e Q
  | [], [], _, q => h _ q
  | _ :: is, _ :: ds, _, q => bindTs_mono (is := is) (ds := ds) h q
  | [], _ :: _, _, q => q
  | _ :: _, [], _, q => q
theorem bindT_mono {P Q : VE → Prop} (h : ∀ e, P e → Q e) {d : D} {e : VE} (q : bindT tg d e P) : bindT tg d e Q := by
  cases tg with
  | nm i => exact h _ q
  | tp is => cases d <;> first | exact bindTs_mono h q | exact q
/-- every item gives its value -/
theorem lc_I {Q : R → VE → Prop} (out : List D) (hl : out.length = items.length) (hs : items.length ≤ sizeLine)
    (h : ∀ (i : Nat) (d r : D), items[i]? = some d → out[i]? = some r → bindT tg d (wipeE e1 tg.slots) fun e2 => ∀ P : R → VE → Prop, (∀ o, P (o, r) e2) → wE G E elt e2 P) (hQ : Q (true, .lst out) e1) :
    ∃ I : Nat → List D → Prop, I 0 [] ∧
        (∀ i d acc, items[i]? = some d → I i acc → bindT tg d (wipeE e1 tg.slots) fun e2 => wTxs G E .none e2 fun c e3 => e3 = e2 ∧
          if c = true then wE G E elt e3 fun r e4 => e4 = e2 ∧ acc.length < sizeLine ∧ I (i + 1) (acc ++ [r.2]) else I (i + 1) acc) ∧
        ∀ acc, I items.length acc → Q (true, .lst acc) e1 := by
  refine ⟨fun i acc => acc = out.take i, rfl, fun i d acc hd ha => ?_, fun acc ha => ?_⟩
  · have hi : i < items.length := (List.getElem?_eq_some_iff.mp hd).1
    have ho : i < out.length := by omega
    refine bindT_mono (fun e q => ?_) (h i d _ hd (List.getElem?_eq_getElem ho))
    refine ⟨rfl, ?_⟩
    rw [if_pos rfl]
    refine q _ fun o => ⟨rfl, ?_, ?_⟩
    · rw [ha, List.length_take]; omega
    · rw [ha]; simp
  · subst ha
    rw [← hl, List.take_length]
    exact hQ
theorem w_lcI {env : VE} {fz : List Nat} {it : Itx} {Q : R → VE → Prop} (items : List D) (out : List D) (hI : ∀ Q' : List D → VE → Prop, Q' items (frzL env fz) → wI G E it (frzL env fz) Q') (hl : out.length = items.length) (hs : items.length ≤ sizeLine)
    (h : ∀ (i : Nat) (d r : D), items[i]? = some d → out[i]? = some r → bindT tg d (wipeE (frzL env fz) tg.slots) fun e2 => ∀ P : R → VE → Prop, (∀ o, P (o, r) e2) → wE G E elt e2 P) (hQ : Q (true, .lst out) (frzL env fz)) : wE G E (.lc fz elt tg it .none) env Q := by
  rw [w_lc]
  exact hI _ (lc_I out hl hs h hQ)
/-- .. or is left out -/
theorem lcf_I {Q : R → VE → Prop} {t : Tx} (out : List (Option D)) (hl : out.length = items.length) (hs : items.length ≤ sizeLine)
    (h : ∀ (i : Nat) (d : D) (r : Option D), items[i]? = some d → out[i]? = some r → bindT tg d (wipeE e1 tg.slots) fun e2 => ∀ P : Bool → VE → Prop, P r.isSome e2 → wT G E t e2 P)
    (h' : ∀ (i : Nat) (d r : D), items[i]? = some d → out[i]? = some (some r) → bindT tg d (wipeE e1 tg.slots) fun e2 => ∀ P : R → VE → Prop, (∀ o, P (o, r) e2) → wE G E elt e2 P) (hQ : Q (true, .lst (out.filterMap id)) e1) :
    ∃ I : Nat → List D → Prop, I 0 [] ∧
        (∀ i d acc, items[i]? = some d → I i acc → bindT tg d (wipeE e1 tg.slots) fun e2 => wTxs G E (.one t) e2 fun c e3 => e3 = e2 ∧
          if c = true then wE G E elt e3 fun r e4 => e4 = e2 ∧ acc.length < sizeLine ∧ I (i + 1) (acc ++ [r.2]) else I (i + 1) acc) ∧
        ∀ acc, I items.length acc → Q (true, .lst acc) e1 := by
  have both : ∀ {tg : Tg} {d : D} {e : VE} {P Q : VE → Prop}, bindT tg d e P → bindT tg d e Q → bindT tg d e fun z => P z ∧ Q z := by
    have all : ∀ (is : List Nat) (ds : List D) (e : VE) (P Q : VE → Prop), bindTs is ds e P → bindTs is ds e Q → bindTs is ds e fun z => P z ∧ Q z := by
      intro is
      induction is with
      | nil => intro ds e P Q p q; cases ds <;> first | exact ⟨p, q⟩ | exact p
      | cons i is ih => intro ds e P Q p q; cases ds <;> first | exact ih _ _ _ _ p q | exact p
    intro tg d e P Q p q
    cases tg with
    | nm i => exact ⟨p, q⟩
    | tp is => cases d <;> first | exact all _ _ _ _ _ p q | exact p
  refine ⟨fun i acc => acc = (out.take i).filterMap id, rfl, fun i d acc hd ha => ?_, fun acc ha => ?_⟩
  · have hi : i < items.length := (List.getElem?_eq_some_iff.mp hd).1
    have ho : i < out.length := by omega
    have step : out.take (i + 1) = out.take i ++ [out[i]] := by simp
    have q1 := h i d _ hd (List.getElem?_eq_getElem ho)
    have la : ((out.take i).filterMap id).length ≤ i := Nat.le_trans (List.length_filterMap_le _ _) (by rw [List.length_take]; omega)
    cases ov : out[i] with
    | none =>
      rw [ov] at q1 step
      refine bindT_mono (fun e q => ?_) q1
      refine q _ ⟨rfl, ?_⟩
      rw [if_neg (by simp)]
      show acc = _
      rw [ha, step]; simp
    | some r =>
      rw [ov] at q1 step
      have q2 := h' i d r hd (by rw [List.getElem?_eq_getElem ho, ov])
      refine bindT_mono (fun e q => ?_) (both q1 q2)
      refine q.1 _ ⟨rfl, ?_⟩
      rw [if_pos (by simp)]
      refine q.2 _ fun o => ⟨rfl, ?_, ?_⟩
      · rw [ha]; omega
      · show acc ++ [_] = _
        rw [ha, step]; simp
  · subst ha
    rw [← hl, List.take_length]
    exact hQ
theorem nd_inj {α : Type} {l : List α} (h : l.Nodup) {i j : Nat} (hi : i < l.length) (hj : j < l.length) (e : l[i] = l[j]) : i = j := by
  have p := List.pairwise_iff_getElem.mp h
  rcases Nat.lt_trichotomy i j with q | q | q
  · exact absurd e (p i j hi hj q)
  · exact q
  · exact absurd e.symm (p j i hj hi q)
theorem dget_none {ks vs : List D} {k : D} (h : ∀ a ∈ ks, nk a ≠ nk k) : dget ks vs k = none := by
  induction ks generalizing vs with
  | nil => rfl
  | cons a ks ih =>
    cases vs with
    | nil => rfl
    | cons v vs =>
      unfold dget
      rw [if_neg (h a List.mem_cons_self)]
      exact ih fun b hb => h b (List.mem_cons_of_mem _ hb)
theorem dputK_new {ks : List D} {k : D} (h : ∀ a ∈ ks, nk a ≠ nk k) : dputK ks k = ks ++ [k] := by
  unfold dputK
  rw [if_neg]
  intro q
  obtain ⟨a, ha, q⟩ := List.any_eq_true.mp q
  exact h a ha (of_decide_eq_true q)
theorem dputV_new {α : Type} {ks : List D} {vs : List α} {k : D} {v : α} (hl : ks.length = vs.length) (h : ∀ a ∈ ks, nk a ≠ nk k) : dputV ks vs k v = vs ++ [v] := by
  induction ks generalizing vs with
  | nil => cases vs <;> first | rfl | cases hl
  | cons a ks ih =>
    cases vs with
    | nil => cases hl
    | cons w vs =>
      unfold dputV
      rw [if_neg (h a List.mem_cons_self), ih (by simpa using hl) fun b hb => h b (List.mem_cons_of_mem _ hb)]
      rfl
/-- a dict of new keys -/
theorem dc_I {Q : R → VE → Prop} (ks vs : List D) (hk : ks.length = items.length) (hv : vs.length = items.length) (hs : items.length ≤ sizeLine) (nd : (ks.map nk).Nodup) (h0 : ∀ a ∈ ks, kd a = 0 ∧ ∃ n, nk a = some n ∧ n.depth ≤ 8)
    (h : ∀ (i : Nat) (d r r' : D), items[i]? = some d → ks[i]? = some r → vs[i]? = some r' → bindT tg d (wipeE e1 tg.slots) fun e2 => (∀ P : R → VE → Prop, (∀ o, P (o, r) e2) → wE G E k e2 P) ∧ ∀ P : R → VE → Prop, (∀ o, P (o, r') e2) → wE G E v e2 P) (hQ : Q (true, .dct ks vs) e1) :
    ∃ I : Nat → List D → List D → Prop, I 0 [] [] ∧
        (∀ i d ks vs, items[i]? = some d → I i ks vs → bindT tg d (wipeE e1 tg.slots) fun e2 => wE G E k e2 fun r e3 => e3 = e2 ∧ wE G E v e3 fun r' e4 => e4 = e2 ∧
          KeyOk ks r.2 ∧ kd r.2 = 0 ∧ ks.length < sizeLine ∧ I (i + 1) (dputK ks r.2) (dputV ks vs r.2 r'.2)) ∧
        ∀ ks vs, I items.length ks vs → Q (true, .dct ks vs) e1 := by
  refine ⟨fun i a b => a = ks.take i ∧ b = vs.take i, ⟨rfl, rfl⟩, fun i d a b hd ⟨ha, hb⟩ => ?_, fun a b ⟨ha, hb⟩ => ?_⟩
  · have hi : i < items.length := (List.getElem?_eq_some_iff.mp hd).1
    have h1 : i < ks.length := by omega
    have h2 : i < vs.length := by omega
    refine bindT_mono (fun e q => ?_) (h i d _ _ hd (List.getElem?_eq_getElem h1) (List.getElem?_eq_getElem h2))
    refine q.1 _ fun o => ⟨rfl, q.2 _ fun o' => ⟨rfl, ?_⟩⟩
    have hm : ks[i] ∈ ks := List.getElem_mem h1
    have new : ∀ x ∈ a, nk x ≠ nk ks[i] := fun x hx => by
      subst ha
      obtain ⟨j, hj, rfl⟩ := List.mem_iff_getElem.mp hx
      rw [List.length_take] at hj
      rw [List.getElem_take]
      intro z
      have := nd_inj nd (i := j) (j := i) (by rw [List.length_map]; omega) (by rw [List.length_map]; omega) (by simpa using z)
      omega
    have sub : ∀ x ∈ a, x ∈ ks := fun x hx => by subst ha; exact List.mem_of_mem_take hx
    refine ⟨⟨fun x hx => by rw [(h0 x (sub x hx)).1, (h0 _ hm).1], by rw [(h0 _ hm).1]; omega, (h0 _ hm).2⟩, (h0 _ hm).1, by subst ha; rw [List.length_take]; omega, ?_⟩
    have la : a.length = b.length := by subst ha hb; rw [List.length_take, List.length_take]; omega
    show dputK a ks[i] = _ ∧ dputV a b ks[i] vs[i] = _
    rw [dputK_new new, dputV_new la new, ha, hb]
    simp
  · subst ha hb
    have e1 : ks.take items.length = ks := by rw [← hk, List.take_length]
    have e2 : vs.take items.length = vs := by rw [← hv, List.take_length]
    rw [e1, e2]
    exact hQ
theorem w_lcfI {env : VE} {fz : List Nat} {it : Itx} {t : Tx} {Q : R → VE → Prop} (items : List D) (out : List (Option D)) (hI : ∀ Q' : List D → VE → Prop, Q' items (frzL env fz) → wI G E it (frzL env fz) Q') (hl : out.length = items.length) (hs : items.length ≤ sizeLine)
    (h : ∀ (i : Nat) (d : D) (r : Option D), items[i]? = some d → out[i]? = some r → bindT tg d (wipeE (frzL env fz) tg.slots) fun e2 => ∀ P : Bool → VE → Prop, P r.isSome e2 → wT G E t e2 P)
    (h' : ∀ (i : Nat) (d r : D), items[i]? = some d → out[i]? = some (some r) → bindT tg d (wipeE (frzL env fz) tg.slots) fun e2 => ∀ P : R → VE → Prop, (∀ o, P (o, r) e2) → wE G E elt e2 P) (hQ : Q (true, .lst (out.filterMap id)) (frzL env fz)) : wE G E (.lc fz elt tg it (.one t)) env Q := by
  rw [w_lc]
  exact hI _ (lcf_I out hl hs h h' hQ)
theorem w_dcI {env : VE} {fz : List Nat} {it : Itx} {Q : R → VE → Prop} (items : List D) (ks vs : List D) (hI : ∀ Q' : List D → VE → Prop, Q' items (frzL env fz) → wI G E it (frzL env fz) Q') (hk : ks.length = items.length) (hv : vs.length = items.length) (hs : items.length ≤ sizeLine) (nd : (ks.map nk).Nodup) (h0 : ∀ a ∈ ks, kd a = 0 ∧ ∃ n, nk a = some n ∧ n.depth ≤ 8)
    (h : ∀ (i : Nat) (d r r' : D), items[i]? = some d → ks[i]? = some r → vs[i]? = some r' → bindT tg d (wipeE (frzL env fz) tg.slots) fun e2 => (∀ P : R → VE → Prop, (∀ o, P (o, r) e2) → wE G E k e2 P) ∧ ∀ P : R → VE → Prop, (∀ o, P (o, r') e2) → wE G E v e2 P) (hQ : Q (true, .dct ks vs) (frzL env fz)) : wE G E (.dc fz k v tg it) env Q := by
  rw [w_dc]
  exact hI _ (dc_I ks vs hk hv hs nd h0 h hQ)
end
end Vi
set_option Elab.async false
set_option linter.all false
/-! ViU: lists without repeats, first places. -/
namespace Vi
section
variable {α β : Type} [DecidableEq α] [DecidableEq β]
/-- behind u the new things of a list, each where it is first met -/
def uqA (u : List α) : List α → List α
  | [] => u
  | m :: ms => uqA (if m ∈ u then u else u ++ [m]) ms
def uq (ms : List α) : List α := uqA [] ms
theorem uqA_append (b : List α) : ∀ (a u : List α), uqA u (a ++ b) = uqA (uqA u a) b
  | [], _ => rfl
  | _ :: a, _ => uqA_append b a _
theorem uq_append (a b : List α) : uq (a ++ b) = uqA (uq a) b := uqA_append b a []
theorem uq_snoc (a : List α) (x : α) : uq (a ++ [x]) = if x ∈ uq a then uq a else uq a ++ [x] := uq_append a [x]
theorem mem_uqA {x : α} : ∀ {ms u : List α}, x ∈ uqA u ms ↔ x ∈ u ∨ x ∈ ms
  | [], u => by simp [uqA]
  | m :: ms, u => by
    show x ∈ uqA _ ms ↔ _
    rw [mem_uqA (ms := ms)]
    split
    · rename_i h
      simp only [List.mem_cons]
      constructor
      · rintro (h1 | h1) <;> simp [h1]
      · rintro (h1 | rfl | h1)
        · exact .inl h1
        · exact .inl h
        · exact .inr h1
    · simp only [List.mem_append, List.mem_cons, List.not_mem_nil, or_false]
      rw [or_assoc]
theorem mem_uq {x : α} {ms : List α} : x ∈ uq ms ↔ x ∈ ms := by simp [uq, mem_uqA]
theorem uqA_nodup : ∀ {ms u : List α}, u.Nodup → (uqA u ms).Nodup
  | [], _, h => h
  | m :: ms, u, h => by
    refine uqA_nodup (ms := ms) ?_
    split
    · exact h
    · rename_i hm
      rw [List.nodup_append]
      exact ⟨h, by simp, fun a ha b hb => by rw [List.mem_singleton] at hb; subst hb; exact fun e => hm (e ▸ ha)⟩
theorem uq_nodup {ms : List α} : (uq ms).Nodup := uqA_nodup (List.nodup_nil)
theorem uqA_pre : ∀ (ms u : List α), ∃ r, uqA u ms = u ++ r
  | [], u => ⟨[], by simp [uqA]⟩
  | m :: ms, u => by
    obtain ⟨r, h⟩ := uqA_pre ms (if m ∈ u then u else u ++ [m])
    show ∃ r, uqA _ ms = u ++ r
    rw [h]
    split
    · exact ⟨r, rfl⟩
    · exact ⟨m :: r, by simp⟩
theorem uq_pre (a b : List α) : ∃ r, uq (a ++ b) = uq a ++ r := by rw [uq_append]; exact uqA_pre b _
theorem uqA_sub : ∀ {ms u : List α}, (∀ x ∈ ms, x ∈ u) → uqA u ms = u
  | [], _, _ => rfl
  | m :: ms, u, h => by
    show uqA _ ms = u
    rw [if_pos (h m List.mem_cons_self)]
    exact uqA_sub fun x hx => h x (List.mem_cons_of_mem _ hx)
theorem uqA_map {g : α → β} : ∀ {ms u : List α}, (∀ x ∈ u ++ ms, ∀ y ∈ u ++ ms, g x = g y → x = y) → uqA (u.map g) (ms.map g) = (uqA u ms).map g
  | [], _, _ => rfl
  | m :: ms, u, h => by
    show uqA (if g m ∈ u.map g then u.map g else u.map g ++ [g m]) (ms.map g) = (uqA (if m ∈ u then u else u ++ [m]) ms).map g
    by_cases hm : m ∈ u
    · rw [if_pos hm, if_pos (List.mem_map_of_mem hm)]
      exact uqA_map fun x hx y hy => h x (by simp at hx ⊢; rcases hx with q | q <;> simp [q]) y (by simp at hy ⊢; rcases hy with q | q <;> simp [q])
    · rw [if_neg hm, if_neg]
      · have e : u.map g ++ [g m] = (u ++ [m]).map g := by simp
        rw [e]
        exact uqA_map fun x hx y hy => h x (by simpa using hx) y (by simpa using hy)
      · intro q
        obtain ⟨x, hx, e⟩ := List.mem_map.mp q
        have := h x (by simp [hx]) m (by simp) e
        subst this
        exact hm hx
theorem uq_map {g : α → β} {ms : List α} (h : ∀ x ∈ ms, ∀ y ∈ ms, g x = g y → x = y) : uq (ms.map g) = (uq ms).map g := uqA_map (u := []) (by simpa using h)
theorem uqA_len : ∀ (ms u : List α), (uqA u ms).length ≤ u.length + ms.length
  | [], _ => by simp [uqA]
  | m :: ms, u => by
    have := uqA_len ms (if m ∈ u then u else u ++ [m])
    show (uqA _ ms).length ≤ _
    split at this <;> rename_i hm
    · rw [if_pos hm]; simp at this ⊢; omega
    · rw [if_neg hm]; simp at this ⊢; omega
theorem uq_len (ms : List α) : (uq ms).length ≤ ms.length := by
  have := uqA_len ms []
  simp only [List.length_nil, Nat.zero_add] at this
  exact this
theorem idx_lt {x : α} {l : List α} (h : x ∈ l) : l.idxOf x < l.length := List.idxOf_lt_length_of_mem h
theorem idx_get {x : α} {l : List α} (h : x ∈ l) : l[l.idxOf x]'(idx_lt h) = x := List.getElem_idxOf (idx_lt h)
theorem idx_inj {x y : α} {l : List α} (hx : x ∈ l) (hy : y ∈ l) (h : l.idxOf x = l.idxOf y) : x = y := by
  have := idx_get hx
  rw [← this]
  have e := idx_get hy
  simp only [h]
  exact e
theorem nd_inj' {l : List α} (h : l.Nodup) {i j : Nat} (hi : i < l.length) (hj : j < l.length) (e : l[i] = l[j]) : i = j := by
  have p := List.pairwise_iff_getElem.mp h
  rcases Nat.lt_trichotomy i j with q | q | q
  · exact absurd e (p i j hi hj q)
  · exact q
  · exact absurd e.symm (p j i hj hi q)
theorem idx_of_get {l : List α} (h : l.Nodup) {i : Nat} (hi : i < l.length) : l.idxOf l[i] = i :=
  nd_inj' h (idx_lt (List.getElem_mem hi)) hi (idx_get (List.getElem_mem hi))
theorem map_idx {l : List α} (h : l.Nodup) : l.map l.idxOf = List.range l.length := by
  apply List.ext_getElem
  · simp
  · intro i h1 h2
    simp only [List.getElem_map, List.getElem_range]
    exact idx_of_get h (by simpa using h1)
/-- the number of each thing, equal things alike, by first places -/
def num (ms : List α) : List Nat := ms.map (uq ms).idxOf
theorem num_len {ms : List α} : (num ms).length = ms.length := by simp [num]
theorem num_get {ms : List α} {i : Nat} (h : i < ms.length) : (num ms)[i]'(by rw [num_len]; exact h) = (uq ms).idxOf ms[i] := by simp [num]
theorem num_eq {ms : List α} {i j : Nat} (hi : i < ms.length) (hj : j < ms.length) : (num ms)[i]'(by rw [num_len]; exact hi) = (num ms)[j]'(by rw [num_len]; exact hj) ↔ ms[i] = ms[j] := by
  rw [num_get hi, num_get hj]
  exact ⟨fun e => idx_inj (mem_uq.mpr (List.getElem_mem hi)) (mem_uq.mpr (List.getElem_mem hj)) e, fun e => by rw [e]⟩
theorem num_uq {ms : List α} : uq (num ms) = List.range (uq ms).length := by
  unfold num
  rw [uq_map fun x hx y hy e => idx_inj (mem_uq.mpr hx) (mem_uq.mpr hy) e, map_idx uq_nodup]
theorem num_lt {ms : List α} : ∀ x ∈ num ms, x < (uq ms).length := fun x hx => by
  have : x ∈ uq (num ms) := mem_uq.mpr hx
  rw [num_uq] at this
  exact List.mem_range.mp this
theorem num_mem {ms : List α} {x : Nat} (h : x < (uq ms).length) : x ∈ num ms := by
  have : x ∈ uq (num ms) := by rw [num_uq]; exact List.mem_range.mpr h
  exact mem_uq.mp this
/-- a list that has all things of a longer one without repeats has none itself -/
theorem nodup_of_sub : ∀ {l m : List α}, l.Nodup → (∀ x ∈ l, x ∈ m) → m.length ≤ l.length → m.Nodup
  | [], m, _, _, h => by
    have : m = [] := List.length_eq_zero_iff.mp (by simpa using h)
    subst this; exact List.nodup_nil
  | a :: t, m, nd, sub, h => by
    have ha : a ∈ m := sub a List.mem_cons_self
    have nd' := (List.nodup_cons.mp nd)
    have sub' : ∀ x ∈ t, x ∈ m.erase a := fun x hx => (List.mem_erase_of_ne (fun e : x = a => nd'.1 (e ▸ hx))).mpr (sub x (List.mem_cons_of_mem _ hx))
    have hl : (m.erase a).length = m.length - 1 := List.length_erase_of_mem ha
    have hp : 0 < m.length := List.length_pos_of_mem ha
    have ih := nodup_of_sub nd'.2 sub' (by simp at h; omega)
    have hn : a ∉ m.erase a := fun q => by
      have sub2 : ∀ x ∈ t, x ∈ (m.erase a).erase a := fun x hx => (List.mem_erase_of_ne (fun e : x = a => nd'.1 (e ▸ hx))).mpr (sub' x hx)
      have h2 : ((m.erase a).erase a).length = (m.erase a).length - 1 := List.length_erase_of_mem q
      have h3 := nd'.2.length_le_of_subset sub2
      have h4 := List.length_pos_of_mem q
      simp at h; omega
    have hp : m.Perm (a :: m.erase a) := List.perm_cons_erase ha
    exact hp.symm.nodup (List.nodup_cons.mpr ⟨hn, ih⟩)
theorem nodup_map_inj {g : α → β} : ∀ {l : List α}, (l.map g).Nodup → ∀ x ∈ l, ∀ y ∈ l, g x = g y → x = y
  | [], _, x, hx, _, _, _ => by cases hx
  | a :: l, nd, x, hx, y, hy, e => by
    have nd' := List.nodup_cons.mp (show (g a :: l.map g).Nodup from nd)
    rcases List.mem_cons.mp hx with h1 | h1 <;> rcases List.mem_cons.mp hy with h2 | h2
    · rw [h1, h2]
    · subst h1; rw [e] at nd'; exact absurd (List.mem_map_of_mem h2) nd'.1
    · subst h2; rw [← e] at nd'; exact absurd (List.mem_map_of_mem h1) nd'.1
    · exact nodup_map_inj nd'.2 x h1 y h2 e
end
end Vi
set_option Elab.async false
set_option linter.all false
/-! FmA: forms, plain. -/
namespace Vi
abbrev Form := List (Bool × List Nat)
def st (f : Form) (s : Nat) : Bool × List Nat := f.getD s (false, [])
def mv (f : Form) (s j : Nat) : Nat := (st f s).2.getD j 0
theorem getD_lt {α : Type} {l : List α} {i : Nat} {d : α} (h : i < l.length) : l.getD i d = l[i] := by simp [h]
/-- does the row of digits lead from s to an end -/
def acc (f : Form) : Nat → List Nat → Bool
  | s, [] => (st f s).1
  | s, j :: w => acc f (mv f s j) w
def run (f : Form) : Nat → List Nat → Nat
  | s, [] => s
  | s, j :: w => run f (mv f s j) w
structure Wf (wide : Nat) (f : Form) : Prop where
  pos : 0 < f.length
  ww : ∀ s ∈ f, s.2.length = wide
  lt : ∀ s ∈ f, ∀ m ∈ s.2, m < f.length
def Wd (wide : Nat) (w : List Nat) : Prop := ∀ j ∈ w, j < wide
theorem Wd.nil {wide : Nat} : Wd wide [] := fun _ h => by cases h
theorem Wd.cons {wide j : Nat} {w : List Nat} (h : j < wide) (q : Wd wide w) : Wd wide (j :: w) := fun k hk => (List.mem_cons.mp hk).elim (fun e => e ▸ h) (q k)
theorem Wd.append {wide : Nat} {u w : List Nat} (p : Wd wide u) (q : Wd wide w) : Wd wide (u ++ w) := fun k hk => (List.mem_append.mp hk).elim (p k) (q k)
theorem Wd.hd {wide j : Nat} {w : List Nat} (q : Wd wide (j :: w)) : j < wide := q j List.mem_cons_self
theorem Wd.tl {wide j : Nat} {w : List Nat} (q : Wd wide (j :: w)) : Wd wide w := fun k hk => q k (List.mem_cons_of_mem _ hk)
section
variable {f g t M : Form} {wide s i j k : Nat} {w u : List Nat}
theorem acc_app : ∀ {u : List Nat} {s : Nat}, acc f s (u ++ w) = acc f (run f s u) w
  | [], _ => rfl
  | _ :: u, _ => acc_app (u := u)
theorem acc_run {u : List Nat} {s : Nat} : acc f s u = (st f (run f s u)).1 := by
  have := acc_app (f := f) (w := []) (u := u) (s := s)
  rw [List.append_nil] at this
  exact this
theorem run_app : ∀ {u : List Nat} {s : Nat}, run f s (u ++ w) = run f (run f s u) w
  | [], _ => rfl
  | _ :: u, _ => run_app (u := u)
theorem st_get (h : s < f.length) : st f s = f[s] := by simp [st, h]
theorem st_mem (h : s < f.length) : st f s ∈ f := by rw [st_get h]; exact List.getElem_mem h
theorem Wf.len (F : Wf wide f) (h : s < f.length) : (st f s).2.length = wide := F.ww _ (st_mem h)
theorem Wf.mvmem (F : Wf wide f) (h : s < f.length) (hj : j < wide) : mv f s j ∈ (st f s).2 := by
  have hl : j < (st f s).2.length := by rw [F.len h]; exact hj
  unfold mv
  simp [hl]
theorem Wf.mvlt (F : Wf wide f) (h : s < f.length) (hj : j < wide) : mv f s j < f.length := F.lt _ (st_mem h) _ (F.mvmem h hj)
theorem Wf.run (F : Wf wide f) : ∀ {w : List Nat} {s : Nat}, s < f.length → Wd wide w → Vi.run f s w < f.length
  | [], _, h, _ => h
  | j :: w, s, h, q => Wf.run F (w := w) (F.mvlt h q.hd) q.tl
theorem mem_mv (F : Wf wide f) (h : s < f.length) {m : Nat} (hm : m ∈ (st f s).2) : ∃ j, j < wide ∧ mv f s j = m := by
  obtain ⟨j, hj, e⟩ := List.mem_iff_getElem.mp hm
  refine ⟨j, by rw [← F.len h]; exact hj, ?_⟩
  unfold mv
  simp [hj, e]

/-! ### a start ahead -/
def withStart (f : Form) : Form := ((st f 0).1, 0 :: ((st f 0).2.drop 1).map (· + 1)) :: f.map fun s => (s.1, s.2.map (· + 1))
theorem ws_len : (withStart f).length = f.length + 1 := by simp [withStart]
theorem ws_zero : st (withStart f) 0 = ((st f 0).1, 0 :: ((st f 0).2.drop 1).map (· + 1)) := rfl
theorem ws_succ (h : s < f.length) : st (withStart f) (s + 1) = ((st f s).1, (st f s).2.map (· + 1)) := by
  rw [st_get (by rw [ws_len]; omega), st_get h]
  simp [withStart]
theorem ws_wf (F : Wf wide f) (hw : 1 ≤ wide) : Wf wide (withStart f) where
  pos := by rw [ws_len]; omega
  ww := fun s hs => by
    rcases List.mem_cons.mp hs with rfl | hs
    · have := F.len F.pos
      simp [this]; omega
    · obtain ⟨s', h1, rfl⟩ := List.mem_map.mp hs
      simp [F.ww _ h1]
  lt := fun s hs m hm => by
    rw [ws_len]
    rcases List.mem_cons.mp hs with rfl | hs
    · rcases List.mem_cons.mp hm with rfl | hm
      · omega
      · obtain ⟨m', h1, rfl⟩ := List.mem_map.mp hm
        have := F.lt _ (st_mem F.pos) m' (List.mem_of_mem_drop h1)
        omega
    · obtain ⟨s', h1, rfl⟩ := List.mem_map.mp hs
      obtain ⟨m', h2, rfl⟩ := List.mem_map.mp hm
      have := F.lt _ h1 m' h2
      omega
theorem ws_mv (F : Wf wide f) (h : s < f.length) (hj : j < wide) : mv (withStart f) (s + 1) j = mv f s j + 1 := by
  have hl : j < (st f s).2.length := by rw [F.len h]; exact hj
  unfold mv
  rw [ws_succ h]
  simp [hl]
theorem ws_mv0 (F : Wf wide f) (hj : j < wide) : mv (withStart f) 0 j = if j = 0 then 0 else mv f 0 j + 1 := by
  have hl : j < (st f 0).2.length := by rw [F.len F.pos]; exact hj
  unfold mv
  rw [ws_zero]
  cases j with
  | zero => simp
  | succ j =>
    rw [if_neg (by omega)]
    have h2 : j < ((st f 0).2.drop 1).length := by rw [List.length_drop]; omega
    simp only [List.getD_cons_succ]
    rw [getD_lt (by simpa using h2), getD_lt hl]
    simp [Nat.add_comm]
theorem ws_acc (F : Wf wide f) : ∀ {w : List Nat} {s : Nat}, s < f.length → Wd wide w → acc (withStart f) (s + 1) w = acc f s w
  | [], s, h, _ => by show (st _ _).1 = _; rw [ws_succ h]; rfl
  | j :: w, s, h, q => by
    show acc _ (mv _ _ _) w = acc f (mv f s j) w
    rw [ws_mv F h q.hd]
    exact ws_acc F (F.mvlt h q.hd) q.tl
theorem ws_acc0 (F : Wf wide f) (q : Wd wide (j :: w)) : acc (withStart f) 0 (j :: w) = if j = 0 then acc (withStart f) 0 w else acc f (mv f 0 j) w := by
  show acc _ (mv _ _ _) w = _
  rw [ws_mv0 F q.hd]
  by_cases h : j = 0
  · rw [if_pos h, if_pos h]
  · rw [if_neg h, if_neg h]
    exact ws_acc F (F.mvlt F.pos q.hd) q.tl
theorem ws_nil : acc (withStart f) 0 [] = acc f 0 [] := rfl

/-! ### the states that are met -/
def mvs (f : Form) (s : Nat) : List Nat := (st f s).2
structure Met (f : Form) (met : List Nat) : Prop where
  eq : met = uq (0 :: met.flatMap (mvs f))
  go : ∀ k, k < met.length → k < (uq (0 :: (met.take k).flatMap (mvs f))).length
def renum (f : Form) (met : List Nat) : Form := met.map fun s => ((st f s).1, (st f s).2.map met.idxOf)
structure Ord (t : Form) : Prop where
  eq : uq (0 :: t.flatMap (·.2)) = List.range t.length
  go : ∀ k, k < t.length → k < (uq (0 :: (t.take k).flatMap (·.2))).length
variable {met : List Nat}
theorem Met.nd (m : Met f met) : met.Nodup := by rw [m.eq]; exact uq_nodup
theorem Met.closed (m : Met f met) (hs : s ∈ met) {x : Nat} (hx : x ∈ (st f s).2) : x ∈ met := by
  rw [m.eq]
  exact mem_uq.mpr (List.mem_cons_of_mem _ (List.mem_flatMap.mpr ⟨s, hs, hx⟩))
theorem uq_cons0 (l : List Nat) : ∃ r, uq (0 :: l) = 0 :: r := by
  obtain ⟨r, h⟩ := uq_pre [0] l
  exact ⟨r, h⟩
theorem Met.zero (m : Met f met) : ∃ r, met = 0 :: r := by
  obtain ⟨r, h⟩ := uq_cons0 (met.flatMap (mvs f))
  exact ⟨r, m.eq.trans h⟩
theorem Met.mem0 (m : Met f met) : 0 ∈ met := by obtain ⟨r, h⟩ := m.zero; rw [h]; exact List.mem_cons_self
theorem Met.idx0 (m : Met f met) : met.idxOf 0 = 0 := by obtain ⟨r, h⟩ := m.zero; rw [h]; simp
theorem Met.pos (m : Met f met) : 0 < met.length := List.length_pos_of_mem m.mem0
theorem Met.lt (m : Met f met) (F : Wf wide f) : ∀ s ∈ met, s < f.length := by
  have key : ∀ k, k ≤ met.length → ∀ s ∈ met.take k, s < f.length := by
    intro k
    induction k with
    | zero => intro _ s hs; simp at hs
    | succ k ih =>
      intro hk s hs
      have hk' : k < met.length := by omega
      rw [List.take_succ_eq_append_getElem hk'] at hs
      rcases List.mem_append.mp hs with hs | hs
      · exact ih (by omega) s hs
      · rw [List.mem_singleton] at hs
        subst hs
        obtain ⟨r, hr⟩ := uq_pre (0 :: (met.take k).flatMap (mvs f)) ((met.drop k).flatMap (mvs f))
        have hm : met = uq (0 :: (met.take k).flatMap (mvs f)) ++ r := by
          rw [← hr, List.cons_append, ← List.flatMap_append, List.take_append_drop]
          exact m.eq
        have hg := m.go k hk'
        have hin : met[k] ∈ uq (0 :: (met.take k).flatMap (mvs f)) := by
          have : met[k] = (uq (0 :: (met.take k).flatMap (mvs f)))[k] := by
            have h1 : met[k]? = (uq (0 :: (met.take k).flatMap (mvs f)))[k]? := by
              conv => lhs; rw [hm]
              exact List.getElem?_append_left hg
            rw [List.getElem?_eq_getElem hk', List.getElem?_eq_getElem hg] at h1
            exact Option.some.inj h1
          rw [this]; exact List.getElem_mem hg
        rcases List.mem_cons.mp (mem_uq.mp hin) with e | e
        · rw [e]; exact F.pos
        · obtain ⟨s', h1, h2⟩ := List.mem_flatMap.mp e
          exact F.lt _ (st_mem (ih (by omega) s' h1)) _ h2
  intro s hs
  refine key met.length (Nat.le_refl _) s ?_
  rw [List.take_length]; exact hs
theorem rn_len : (renum f met).length = met.length := by simp [renum]
theorem rn_st (hs : s ∈ met) : st (renum f met) (met.idxOf s) = ((st f s).1, (st f s).2.map met.idxOf) := by
  rw [st_get (by rw [rn_len]; exact idx_lt hs)]
  simp only [renum, List.getElem_map]
  rw [idx_get hs]
theorem rn_wf (F : Wf wide f) (m : Met f met) : Wf wide (renum f met) where
  pos := by rw [rn_len]; exact m.pos
  ww := fun s hs => by
    obtain ⟨s', h1, rfl⟩ := List.mem_map.mp hs
    simp [F.len (m.lt F _ h1)]
  lt := fun s hs x hx => by
    obtain ⟨s', h1, rfl⟩ := List.mem_map.mp hs
    obtain ⟨y, h2, rfl⟩ := List.mem_map.mp hx
    rw [rn_len]
    exact idx_lt (m.closed h1 h2)
theorem rn_mv (F : Wf wide f) (m : Met f met) (hs : s ∈ met) (hj : j < wide) : mv (renum f met) (met.idxOf s) j = met.idxOf (mv f s j) ∧ mv f s j ∈ met := by
  have hl : j < (st f s).2.length := by rw [F.len (m.lt F _ hs)]; exact hj
  refine ⟨?_, m.closed hs (F.mvmem (m.lt F _ hs) hj)⟩
  unfold mv
  rw [rn_st hs]
  simp [hl]
theorem rn_acc (F : Wf wide f) (m : Met f met) : ∀ {w : List Nat} {s : Nat}, s ∈ met → Wd wide w → acc (renum f met) (met.idxOf s) w = acc f s w
  | [], s, h, _ => by show (st _ _).1 = _; rw [rn_st h]; rfl
  | j :: w, s, h, q => by
    show acc _ (mv _ _ _) w = acc f (mv f s j) w
    obtain ⟨e, hm⟩ := rn_mv F m h q.hd
    rw [e]
    exact rn_acc F m hm q.tl
theorem rn_flat (l : List Nat) : (l.map fun s => ((st f s).1, (st f s).2.map met.idxOf)).flatMap (·.2) = (l.flatMap (mvs f)).map met.idxOf := by
  induction l with
  | nil => rfl
  | cons a l ih =>
    rw [List.map_cons, List.flatMap_cons, List.flatMap_cons, List.map_append, ih]
    rfl
theorem rn_ord (F : Wf wide f) (m : Met f met) : Ord (renum f met) := by
  have e : ∀ l : List Nat, (∀ s ∈ l, s ∈ met) → uq (0 :: (l.map fun s => ((st f s).1, (st f s).2.map met.idxOf)).flatMap (·.2)) = (uq (0 :: l.flatMap (mvs f))).map met.idxOf := fun l hl => by
    have e0 : 0 :: (l.flatMap (mvs f)).map met.idxOf = (0 :: l.flatMap (mvs f)).map met.idxOf := by rw [List.map_cons, m.idx0]
    rw [rn_flat, e0]
    have sub : ∀ x ∈ 0 :: l.flatMap (mvs f), x ∈ met := fun x hx => by
      rcases List.mem_cons.mp hx with rfl | hx
      · exact m.mem0
      · obtain ⟨s, h1, h2⟩ := List.mem_flatMap.mp hx
        exact m.closed (hl s h1) h2
    exact uq_map fun x hx y hy => idx_inj (sub x hx) (sub y hy)
  refine ⟨?_, fun k hk => ?_⟩
  · rw [rn_len]
    show uq (0 :: (met.map _).flatMap _) = _
    rw [e met fun _ h => h, ← m.eq, map_idx m.nd]
  · rw [rn_len] at hk
    show k < (uq (0 :: ((met.map _).take k).flatMap _)).length
    rw [← List.map_take, e _ fun s hs => List.mem_of_mem_take hs, List.length_map]
    exact m.go k hk
/-- each state is met -/
theorem Ord.reach (F : Wf wide t) (o : Ord t) : ∀ k, k < t.length → ∃ w, Wd wide w ∧ run t 0 w = k := by
  intro k
  induction k using Nat.strongRecOn with
  | _ k ih =>
    intro hk
    obtain ⟨r, hr⟩ := uq_pre (0 :: (t.take k).flatMap (·.2)) ((t.drop k).flatMap (·.2))
    have hm : List.range t.length = uq (0 :: (t.take k).flatMap (·.2)) ++ r := by
      rw [← hr, List.cons_append, ← List.flatMap_append, List.take_append_drop]
      exact o.eq.symm
    have hg := o.go k hk
    have hin : k ∈ uq (0 :: (t.take k).flatMap (·.2)) := by
      have h1 : (List.range t.length)[k]? = (uq (0 :: (t.take k).flatMap (·.2)))[k]? := by
        rw [hm]; exact List.getElem?_append_left hg
      rw [List.getElem?_range hk, List.getElem?_eq_getElem hg] at h1
      rw [Option.some.inj h1]
      have := List.getElem_mem hg
      rw [← Option.some.inj h1] at this ⊢
      exact this
    rcases List.mem_cons.mp (mem_uq.mp hin) with e | e
    · exact ⟨[], Wd.nil, e.symm⟩
    · obtain ⟨s, h1, h2⟩ := List.mem_flatMap.mp e
      obtain ⟨i, hi, rfl⟩ := List.mem_iff_getElem.mp h1
      have hik : i < k := by rw [List.length_take] at hi; omega
      have hit : i < t.length := by omega
      rw [List.getElem_take, ← st_get hit] at h2
      obtain ⟨j, hj, e⟩ := mem_mv F hit h2
      obtain ⟨w, q, hw⟩ := ih i hik hit
      refine ⟨w ++ [j], q.append (Wd.cons hj Wd.nil), ?_⟩
      rw [run_app, hw]
      exact e
end
end Vi
set_option Elab.async false
set_option linter.all false
/-! FmB: classes of states, the least form, plain. -/
namespace Vi
section
variable {f g t M : Form} {wide s i j k : Nat} {w u c : List Nat}
/-- the same ends for all rows that follow -/
def Alike (wide : Nat) (f : Form) (i j : Nat) : Prop := ∀ w, Wd wide w → acc f i w = acc f j w
def Apart (wide : Nat) (t : Form) : Prop := ∀ i j, i < t.length → j < t.length → Alike wide t i j → i = j
theorem Alike.symm (h : Alike wide f i j) : Alike wide f j i := fun w q => (h w q).symm
theorem Alike.trans (h : Alike wide f i j) (h' : Alike wide f j k) : Alike wide f i k := fun w q => (h w q).trans (h' w q)
theorem Alike.step (h : Alike wide f i j) {d : Nat} (hd : d < wide) : Alike wide f (mv f i d) (mv f j d) := fun w q => h (d :: w) (q.cons hd)
theorem Alike.ends (h : Alike wide f i j) : (st f i).1 = (st f j).1 := h [] Wd.nil
/-- the class of state i -/
def cl (c : List Nat) (i : Nat) : Nat := c.getD i 0
/-- a list of numbers by first places -/
def Numd (c : List Nat) : Prop := uq c = List.range (uq c).length
structure LI (wide : Nat) (f : Form) (c : List Nat) : Prop where
  len : c.length = f.length
  nm : Numd c
  ends : ∀ i j, i < f.length → j < f.length → cl c i = cl c j → (st f i).1 = (st f j).1
  like : ∀ i j, i < f.length → j < f.length → Alike wide f i j → cl c i = cl c j
structure LC (wide : Nat) (f : Form) (c : List Nat) : Prop where
  len : c.length = f.length
  nm : Numd c
  iff : ∀ i j, i < f.length → j < f.length → (cl c i = cl c j ↔ Alike wide f i j)
def marks (f : Form) (c : List Nat) : List (Nat × List Nat) := (List.range f.length).map fun k => (cl c k, (st f k).2.map (cl c))
def split (f : Form) (c : List Nat) : List Nat := num (marks f c)
theorem num_numd {α : Type} [DecidableEq α] {ms : List α} : Numd (num ms) := by
  unfold Numd
  rw [num_uq, List.length_range]
theorem cl_num {α : Type} [DecidableEq α] {ms : List α} (hi : i < ms.length) (hj : j < ms.length) : cl (num ms) i = cl (num ms) j ↔ ms[i] = ms[j] := by
  unfold cl
  rw [getD_lt (by rw [num_len]; exact hi), getD_lt (by rw [num_len]; exact hj)]
  exact num_eq hi hj
theorem mk_len : (marks f c).length = f.length := by simp [marks]
theorem mk_get (hi : i < f.length) : (marks f c)[i]'(by rw [mk_len]; exact hi) = (cl c i, (st f i).2.map (cl c)) := by simp [marks]
theorem sp_eq (hi : i < f.length) (hj : j < f.length) : cl (split f c) i = cl (split f c) j ↔ (cl c i = cl c j ∧ (st f i).2.map (cl c) = (st f j).2.map (cl c)) := by
  unfold split
  rw [cl_num (by rw [mk_len]; exact hi) (by rw [mk_len]; exact hj), mk_get hi, mk_get hj, Prod.mk.injEq]
theorem map_ext (F : Wf wide f) (hi : i < f.length) (hj : j < f.length) (g : Nat → Nat) : (st f i).2.map g = (st f j).2.map g ↔ ∀ d, d < wide → g (mv f i d) = g (mv f j d) := by
  constructor
  · intro h d hd
    have l1 : d < (st f i).2.length := by rw [F.len hi]; exact hd
    have l2 : d < (st f j).2.length := by rw [F.len hj]; exact hd
    have := congrArg (fun z => z[d]?) h
    simp only [List.getElem?_map, List.getElem?_eq_getElem l1, List.getElem?_eq_getElem l2, Option.map_some, Option.some.injEq] at this
    unfold mv
    rw [getD_lt l1, getD_lt l2]
    exact this
  · intro h
    apply List.ext_getElem
    · simp [F.len hi, F.len hj]
    · intro d h1 h2
      have l1 : d < (st f i).2.length := by simpa using h1
      have l2 : d < (st f j).2.length := by simpa using h2
      have := h d (by rw [← F.len hi]; exact l1)
      unfold mv at this
      rw [getD_lt l1, getD_lt l2] at this
      simpa using this
theorem LI.start : LI wide f (num (f.map (·.1))) where
  len := by rw [num_len, List.length_map]
  nm := num_numd
  ends := fun i j hi hj h => by
    have := (cl_num (ms := f.map (·.1)) (by simpa using hi) (by simpa using hj)).mp h
    rw [st_get hi, st_get hj]
    simpa using this
  like := fun i j hi hj h => by
    refine (cl_num (ms := f.map (·.1)) (by simpa using hi) (by simpa using hj)).mpr ?_
    have := h.ends
    rw [st_get hi, st_get hj] at this
    simpa using this
theorem LI.step (F : Wf wide f) (h : LI wide f c) : LI wide f (split f c) where
  len := by unfold split; rw [num_len, mk_len]
  nm := num_numd
  ends := fun i j hi hj e => h.ends i j hi hj ((sp_eq hi hj).mp e).1
  like := fun i j hi hj a => (sp_eq hi hj).mpr ⟨h.like i j hi hj a, (map_ext F hi hj _).mpr fun d hd => h.like _ _ (F.mvlt hi hd) (F.mvlt hj hd) (a.step hd)⟩
theorem cl_mem (h : i < c.length) : cl c i ∈ c := by unfold cl; rw [getD_lt h]; exact List.getElem_mem h
theorem mem_cl {x : Nat} (h : x ∈ c) : ∃ i, i < c.length ∧ cl c i = x := by
  obtain ⟨i, hi, e⟩ := List.mem_iff_getElem.mp h
  exact ⟨i, hi, by unfold cl; rw [getD_lt hi]; exact e⟩
/-- no more classes than before: none was split -/
theorem split_same (hl : c.length = f.length) (h : (uq (split f c)).length ≤ (uq c).length) (hi : i < f.length) (hj : j < f.length) (e : cl c i = cl c j) : cl (split f c) i = cl (split f c) j := by
  have hu : (uq (split f c)).length = (uq (marks f c)).length := by
    unfold split
    rw [num_uq, List.length_range]
  rw [hu] at h
  have nd : ((uq (marks f c)).map (·.1)).Nodup := by
    refine nodup_of_sub (l := uq c) uq_nodup (fun x hx => ?_) (by rw [List.length_map]; exact h)
    obtain ⟨i, hi, rfl⟩ := mem_cl (mem_uq.mp hx)
    rw [hl] at hi
    refine List.mem_map.mpr ⟨(marks f c)[i]'(by rw [mk_len]; exact hi), mem_uq.mpr (List.getElem_mem _), ?_⟩
    rw [mk_get hi]
  unfold split
  rw [cl_num (by rw [mk_len]; exact hi) (by rw [mk_len]; exact hj)]
  refine nodup_map_inj nd _ (mem_uq.mpr (List.getElem_mem _)) _ (mem_uq.mpr (List.getElem_mem _)) ?_
  rw [mk_get hi, mk_get hj]
  exact e
theorem LI.done (F : Wf wide f) (h : LI wide f c) (hs : (uq (split f c)).length ≤ (uq c).length) : LC wide f c where
  len := h.len
  nm := h.nm
  iff := fun i j hi hj => by
    refine ⟨fun e => ?_, h.like i j hi hj⟩
    have key : ∀ (w : List Nat) (i j : Nat), i < f.length → j < f.length → cl c i = cl c j → Wd wide w → acc f i w = acc f j w := by
      intro w
      induction w with
      | nil => intro i j hi hj e _; exact h.ends i j hi hj e
      | cons d w ih =>
        intro i j hi hj e q
        have s := (sp_eq hi hj).mp (split_same h.len hs hi hj e)
        exact ih _ _ (F.mvlt hi q.hd) (F.mvlt hj q.hd) ((map_ext F hi hj _).mp s.2 d q.hd) q.tl
    exact fun w q => key w i j hi hj e q
theorem Numd.lt (h : Numd c) : ∀ x ∈ c, x < (uq c).length := fun x hx => by
  have : x ∈ uq c := mem_uq.mpr hx
  rw [h] at this
  exact List.mem_range.mp this
theorem Numd.mem (h : Numd c) {x : Nat} (hx : x < (uq c).length) : x ∈ c := by
  have : x ∈ uq c := by rw [h]; exact List.mem_range.mpr hx
  exact mem_uq.mp this
theorem Numd.zero (h : Numd c) (hp : 0 < c.length) : cl c 0 = 0 := by
  cases c with
  | nil => cases hp
  | cons a c =>
    obtain ⟨r, hr⟩ := uq_pre [a] c
    have h1 : uq (a :: c) = a :: r := hr
    have h2 : 0 < (uq (a :: c)).length := by rw [h1]; simp
    unfold Numd at h
    have h3 : (uq (a :: c))[0]? = (List.range (uq (a :: c)).length)[0]? := by rw [← h]
    rw [h1] at h3
    rw [h1] at h2
    rw [List.getElem?_range h2] at h3
    simp at h3
    simp [cl, h3]
/-! ### joined -/
def join (f : Form) (c : List Nat) : Form := (uq c).map fun k => ((st f (c.idxOf k)).1, (st f (c.idxOf k)).2.map (cl c))
theorem jn_len : (join f c).length = (uq c).length := by simp [join]
theorem jn_st (h : LC wide f c) (hk : k < (uq c).length) : st (join f c) k = ((st f (c.idxOf k)).1, (st f (c.idxOf k)).2.map (cl c)) := by
  rw [st_get (by rw [jn_len]; exact hk)]
  have hk' : (uq c)[k] = k := by
    have h1 : (uq c)[k]? = (List.range (uq c).length)[k]? := by rw [← h.nm]
    rw [List.getElem?_eq_getElem hk, List.getElem?_range hk] at h1
    exact Option.some.inj h1
  simp only [join, List.getElem_map, hk']
theorem rep_lt (h : LC wide f c) (hk : k < (uq c).length) : c.idxOf k < f.length ∧ cl c (c.idxOf k) = k := by
  have hm := h.nm.mem hk
  refine ⟨by rw [← h.len]; exact idx_lt hm, ?_⟩
  unfold cl
  rw [getD_lt (idx_lt hm)]
  exact idx_get hm
theorem jn_wf (F : Wf wide f) (h : LC wide f c) : Wf wide (join f c) where
  pos := by
    rw [jn_len]
    have : 0 < c.length := by rw [h.len]; exact F.pos
    have := h.nm.lt _ (cl_mem (i := 0) this)
    omega
  ww := fun s hs => by
    obtain ⟨k, h1, rfl⟩ := List.mem_map.mp hs
    have hk := h.nm.lt k (mem_uq.mp h1)
    simp [F.len (rep_lt h hk).1]
  lt := fun s hs m hm => by
    obtain ⟨k, h1, rfl⟩ := List.mem_map.mp hs
    obtain ⟨x, h2, rfl⟩ := List.mem_map.mp hm
    have hk := h.nm.lt k (mem_uq.mp h1)
    rw [jn_len]
    have hx := F.lt _ (st_mem (rep_lt h hk).1) x h2
    exact h.nm.lt _ (cl_mem (by rw [h.len]; exact hx))
theorem jn_acc (F : Wf wide f) (h : LC wide f c) : ∀ {w : List Nat} {i : Nat}, i < f.length → Wd wide w → acc (join f c) (cl c i) w = acc f i w
  | [], i, hi, _ => by
    have hk : cl c i < (uq c).length := h.nm.lt _ (cl_mem (by rw [h.len]; exact hi))
    show (st _ _).1 = _
    rw [jn_st h hk]
    exact ((h.iff _ _ (rep_lt h hk).1 hi).mp (rep_lt h hk).2).ends
  | d :: w, i, hi, q => by
    have hk : cl c i < (uq c).length := h.nm.lt _ (cl_mem (by rw [h.len]; exact hi))
    obtain ⟨r1, r2⟩ := rep_lt h hk
    have a := (h.iff _ _ r1 hi).mp r2
    have hl : d < (st f (c.idxOf (cl c i))).2.length := by rw [F.len r1]; exact q.hd
    have e : mv (join f c) (cl c i) d = cl c (mv f (c.idxOf (cl c i)) d) := by
      unfold mv
      rw [jn_st h hk]
      simp [hl]
    show acc _ (mv _ _ _) w = acc f (mv f i d) w
    rw [e, jn_acc F h (F.mvlt r1 q.hd) q.tl]
    exact a.step q.hd w q.tl
theorem jn_apart (F : Wf wide f) (h : LC wide f c) : Apart wide (join f c) := fun i j hi hj a => by
  rw [jn_len] at hi hj
  obtain ⟨i1, i2⟩ := rep_lt h hi
  obtain ⟨j1, j2⟩ := rep_lt h hj
  rw [← i2, ← j2]
  refine (h.iff _ _ i1 j1).mpr fun w q => ?_
  rw [← jn_acc F h i1 q, ← jn_acc F h j1 q, i2, j2]
  exact a w q
theorem rn_apart {met : List Nat} (F : Wf wide f) (m : Met f met) (h : Apart wide f) : Apart wide (renum f met) := fun i j hi hj a => by
  rw [rn_len] at hi hj
  have e : met[i] = met[j] := h _ _ (m.lt F _ (List.getElem_mem hi)) (m.lt F _ (List.getElem_mem hj)) fun w q => by
    rw [← rn_acc F m (List.getElem_mem hi) q, ← rn_acc F m (List.getElem_mem hj) q, idx_of_get m.nd hi, idx_of_get m.nd hj]
    exact a w q
  exact nd_inj' m.nd hi hj e
/-! ### the least form -/
/-- t is the least form of the machine M (read from its state 0) -/
structure LF (wide : Nat) (M t : Form) : Prop where
  wf : Wf wide t
  ord : Ord t
  apart : Apart wide t
  acc : ∀ w, Wd wide w → Vi.acc t 0 w = Vi.acc M 0 w
theorem LF.of {m1 m2 : List Nat} (F : Wf wide M) (h1 : Met M m1) (h2 : LC wide (renum M m1) c) (h3 : Met (join (renum M m1) c) m2) : LF wide M (renum (join (renum M m1) c) m2) := by
  have F1 := rn_wf F h1
  have F2 := jn_wf F1 h2
  refine ⟨rn_wf F2 h3, rn_ord F2 h3, rn_apart F2 h3 (jn_apart F1 h2), fun w q => ?_⟩
  have e0 := rn_acc F2 h3 h3.mem0 q
  rw [h3.idx0] at e0
  rw [e0]
  have e1 := jn_acc F1 h2 F1.pos q
  rw [h2.nm.zero (by rw [h2.len]; exact F1.pos)] at e1
  rw [e1]
  have e2 := rn_acc F h1 h1.mem0 q
  rw [h1.idx0] at e2
  exact e2
theorem LF.zero (F : Wf wide f) (hw : 1 ≤ wide) (h : LF wide (withStart f) t) : mv t 0 0 = 0 := by
  refine h.apart _ _ (h.wf.mvlt h.wf.pos hw) h.wf.pos fun w q => ?_
  have e := h.acc (0 :: w) (q.cons hw)
  have e2 := ws_acc0 F (q.cons hw)
  rw [if_pos rfl] at e2
  rw [e2, ← h.acc w q] at e
  exact e
/-- a map of the states that are met in M to those of t -/
theorem LF.same (h : LF wide M t) (qu : Wd wide u) {v : List Nat} (qv : Wd wide v) (e : run M 0 u = run M 0 v) : run t 0 u = run t 0 v := by
  refine h.apart _ _ (h.wf.run h.wf.pos qu) (h.wf.run h.wf.pos qv) fun w q => ?_
  rw [← acc_app, ← acc_app, h.acc _ (qu.append q), h.acc _ (qv.append q), acc_app, acc_app, e]
theorem LF.ends (h : LF wide M t) (qu : Wd wide u) : (st t (run t 0 u)).1 = (st M (run M 0 u)).1 := by
  rw [← acc_run, ← acc_run]; exact h.acc u qu
theorem exists_fun {n : Nat} {P : Nat → Nat → Prop} (h : ∀ k, k < n → ∃ s, P k s) : ∃ l : List Nat, l.length = n ∧ ∀ k (hk : k < l.length), P k l[k] := by
  induction n with
  | zero => exact ⟨[], rfl, fun k hk => by simp at hk⟩
  | succ n ih =>
    obtain ⟨l, h1, h2⟩ := ih fun k hk => h k (by omega)
    obtain ⟨s, hs⟩ := h n (by omega)
    refine ⟨l ++ [s], by simp [h1], fun k hk => ?_⟩
    by_cases hk' : k < l.length
    · rw [List.getElem_append_left hk']; exact h2 k hk'
    · have : k = n := by simp at hk; omega
      subst this
      simp [← h1] at hs ⊢
      simpa using hs
theorem LF.len (F : Wf wide M) (h : LF wide M t) : t.length ≤ M.length := by
  obtain ⟨l, h1, h2⟩ := exists_fun (n := t.length) (P := fun k s => ∃ w, Wd wide w ∧ run t 0 w = k ∧ run M 0 w = s) fun k hk => by
    obtain ⟨w, q, e⟩ := h.ord.reach h.wf k hk
    exact ⟨_, w, q, e, rfl⟩
  have nd : l.Nodup := by
    rw [List.nodup_iff_pairwise_ne, List.pairwise_iff_getElem]
    intro i j hi hj hij e
    obtain ⟨u, q1, e1, e2⟩ := h2 i hi
    obtain ⟨v, q2, e3, e4⟩ := h2 j hj
    have := h.same q1 q2 (by rw [e2, e4, e])
    omega
  have sub : ∀ x ∈ l, x ∈ List.range M.length := fun x hx => by
    obtain ⟨i, hi, rfl⟩ := List.mem_iff_getElem.mp hx
    obtain ⟨u, q1, e1, e2⟩ := h2 i hi
    rw [← e2]
    exact List.mem_range.mpr (F.run F.pos q1)
  have := nd.length_le_of_subset sub
  rw [List.length_range, h1] at this
  exact this
/-- a form that stays at a row of zeros reads as itself -/
theorem ws_self (F : Wf wide t) (hw : 1 ≤ wide) (h0 : mv t 0 0 = 0) : ∀ {w : List Nat}, Wd wide w → acc (withStart t) 0 w = acc t 0 w
  | [], _ => rfl
  | j :: w, q => by
    rw [ws_acc0 F q]
    by_cases h : j = 0
    · subst h
      rw [if_pos rfl, ws_self F hw h0 q.tl]
      show _ = acc t (mv t 0 0) w
      rw [h0]
    · rw [if_neg h]; rfl
theorem LF.again {t2 : Form} (F : Wf wide f) (hw : 1 ≤ wide) (h : LF wide (withStart f) t) (h2 : LF wide (withStart t) t2) : LF wide (withStart f) t2 :=
  ⟨h2.wf, h2.ord, h2.apart, fun w q => by rw [h2.acc w q, ws_self h.wf hw (h.zero F hw) q, h.acc w q]⟩
end
end Vi
set_option Elab.async false
set_option linter.all false
set_option maxRecDepth 100000
/-! FmC: the program's forms: contracts, bodies. -/
namespace Vi
open PySem
local macro_rules | `(tactic| trivial) => `(tactic| simp only [w_var, w_non, w_bl, w_int, w_str, w_tup, w_lst, w_bin, w_cmp, w_chain, w_neg, w_notv, w_andv, w_orv, w_ife, w_idx, w_slc, w_call, w_fn1, w_fn2, w_isi, w_isiT, w_dnew, w_dnew1, w_nil, w_cons, w_onone, w_osome, w_val, w_not, w_and, w_or, w_tnone, w_tone, w_seqO, w_rng1, w_rng2, w_vals,
  c_set, c_setT, c_setIx, c_app, c_ex, c_retV, c_retN, c_ite, c_brk, c_cont, c_pass, cs_nil', b_var, b_non, b_bl, b_int, b_str, b_tup, b_lst, b_bin, b_cmp, b_chain, b_neg, b_notv, b_andv, b_orv, b_ife, b_idx, b_slc, b_call, b_fn1, b_fn2, b_isi, b_isiT, b_lc, b_dc, b_dnew, b_dnew1,
  r_non, r_bl, r_int, r_str, r_tup, r_lst, r_bin, r_cmp, r_chain, r_neg, r_notv, r_andv, r_orv, r_ife, r_idx, r_slc, r_call, r_fn1, r_fn2, r_isi, r_isiT, r_dnew, r_dnew1,
  List.getElem?_cons_zero, List.getElem?_cons_succ, List.set_cons_zero, List.set_cons_succ, frzL, frz1, itFz, wipeE, Tg.slots, bindT, bindTs,
  o_addI, o_addT, o_addL, o_sub, o_mulI, o_mulL, o_fdiv, o_mod, o_pow, o_lt, o_le, o_gt, o_ge, o_is, o_isn, o_mem, o_nmem, o_eqI, o_neI, o_ixL, o_ixT, o_ixD, o_ixDt, o_ixDb, o_slcL, o_slcT, o_lenL, o_lenT, o_lenD, o_intI, o_intB, o_tupL, o_tupT, o_lstL, o_lstT, o_maxL, o_maxT, o_abs, o_max2, o_min2, o_tN, o_tB, o_tI, o_tL, o_tT,
  Option.some.injEq, Bool.false_eq_true, if_true, if_false, ite_true, ite_false, Bool.not_true, Bool.not_false, List.length_cons, List.length_nil])
theorem startE_1 {n : Nat} {a : D} : startE (n + 1) [a] = some (false, a) :: List.replicate n none := by simp [startE]
abbrev dN (n : Nat) : D := .int n
def dS (s : Bool × List Nat) : D := .tup [.bl s.1, .tup (s.2.map dN)]
def dF (f : Form) : D := .tup (f.map dS)
/-- things that are keys by e -/
structure Keys {β : Type} (e : β → D) (ms : List β) : Prop where
  inj : ∀ x ∈ ms, ∀ y ∈ ms, nk (e x) = nk (e y) → x = y
  same : ∀ x ∈ ms, ∀ y ∈ ms, kd (e x) = kd (e y)
  ok : ∀ x ∈ ms, kd (e x) < 3 ∧ ∃ n, nk (e x) = some n ∧ n.depth ≤ 8
section
variable {β : Type} [DecidableEq β] {e : β → D} {ms : List β}
theorem Keys.sub {l : List β} (k : Keys e ms) (h : ∀ x ∈ l, x ∈ ms) : Keys e l := ⟨fun x hx y hy => k.inj x (h x hx) y (h y hy), fun x hx y hy => k.same x (h x hx) y (h y hy), fun x hx => k.ok x (h x hx)⟩
theorem Keys.key {l : List β} (k : Keys e ms) (h : ∀ x ∈ l, x ∈ ms) {x : β} (hx : x ∈ ms) : KeyOk (l.map e) (e x) :=
  ⟨fun a ha => by obtain ⟨y, hy, rfl⟩ := List.mem_map.mp ha; exact k.same y (h y hy) x hx, k.ok x hx⟩
theorem Keys.get {x : β} (hx : x ∈ ms) (k : Keys e ms) : ∀ {l : List β} {vs : List D}, (∀ y ∈ l, y ∈ ms) → vs.length = l.length → dget (l.map e) vs (e x) = vs[l.idxOf x]?
  | [], [], _, _ => rfl
  | [], _ :: _, _, h => by cases h
  | _ :: _, [], _, h => by cases h
  | y :: l, v :: vs, h, hl => by
    show (if nk (e y) = nk (e x) then some v else dget (l.map e) vs (e x)) = _
    by_cases q : y = x
    · subst q; rw [if_pos rfl]; simp
    · rw [if_neg fun z => q (k.inj y (h y List.mem_cons_self) x hx z), Keys.get hx k (fun z hz => h z (List.mem_cons_of_mem _ hz)) (by simpa using hl)]
      rw [List.idxOf_cons]
      have : (y == x) = false := by simpa using q
      rw [this]; rfl
theorem Keys.new {x : β} (hx : x ∈ ms) (k : Keys e ms) {l : List β} (h : ∀ y ∈ l, y ∈ ms) (hn : x ∉ l) : ∀ a ∈ l.map e, nk a ≠ nk (e x) := fun a ha q => by
  obtain ⟨y, hy, rfl⟩ := List.mem_map.mp ha
  exact hn (k.inj y (h y hy) x hx q ▸ hy)
end
def ctNumbered : Ctr := fun ds Q _ => ∃ (d : D) (β : Type) (_ : DecidableEq β) (e : β → D) (ms : List β), ds = [d] ∧ seqOf d = some (ms.map e) ∧ Keys e ms ∧ ms.length < sizeLine ∧ Q (false, .tup ((num ms).map dN))
theorem take_snoc {α : Type} {l : List α} {i : Nat} {x : α} (h : l[i]? = some x) : l.take (i + 1) = l.take i ++ [x] := by
  obtain ⟨h1, h2⟩ := List.getElem?_eq_some_iff.mp h
  rw [List.take_succ_eq_append_getElem h1, h2]
theorem b_numbered {G : Str → Option (Nat × Ctr)} : Body G 3 c_numbered ctNumbered := by
  rintro ds Q E ⟨d, β, _, e, ms, rfl, hd, k, hl, hQ⟩
  unfold c_numbered
  rw [startE_1]
  show wCs _ _ _ [some (false, d), none, none] _
  rw [cs_cons']; trivial
  rw [cs_cons', c_for]; trivial
  refine ⟨_, hd, fun i env => ∃ z, env = [some (false, d), some (true, .dct ((uq (ms.take i)).map e) ((List.range (uq (ms.take i)).length).map dN)), z], ⟨_, rfl⟩, ?_, ?_⟩
  · rintro i x env hx ⟨z, rfl⟩
    rw [List.getElem?_map, Option.map_eq_some_iff] at hx
    obtain ⟨m, hm, rfl⟩ := hx
    have mm : m ∈ ms := List.mem_of_getElem? hm
    have hsub : ∀ y ∈ uq (ms.take i), y ∈ ms := fun y hy => List.mem_of_mem_take (mem_uq.mp hy)
    have hlen : (uq (ms.take i)).length ≤ ms.length := Nat.le_trans (uq_len _) (by rw [List.length_take]; omega)
    have hs : uq (ms.take (i + 1)) = if m ∈ uq (ms.take i) then uq (ms.take i) else uq (ms.take i) ++ [m] := by rw [take_snoc hm, uq_snoc]
    trivial
    rw [cs_cons']; trivial
    simp only [hs]
    refine ⟨k.key hsub mm, ?_⟩
    rw [k.get mm hsub (by simp)]
    by_cases q : m ∈ uq (ms.take i)
    · rw [if_pos q]
      have : (List.map dN (List.range (uq (ms.take i)).length))[(uq (ms.take i)).idxOf m]? = some (dN ((uq (ms.take i)).idxOf m)) := by
        rw [List.getElem?_map, List.getElem?_range (idx_lt q)]; rfl
      rw [this]
      simp only [Option.isSome_some, Bool.not_true, Bool.false_eq_true, if_false, cs_nil']
      exact ⟨_, rfl⟩
    · rw [if_neg q, List.getElem?_eq_none (by rw [List.idxOf_eq_length q]; simp)]
      simp only [Option.isSome_none, Bool.not_false, if_true]
      rw [cs_cons']; trivial
      refine ⟨⟨_, rfl⟩, k.key hsub mm, by simp; omega, ?_⟩
      rw [dputK_new (k.new mm hsub q), dputV_new (by simp) (k.new mm hsub q)]
      exact ⟨some (false, e m), by simp [List.range_succ, dN]⟩
  · rintro env ⟨z, rfl⟩
    rw [List.length_map, List.take_length, cs_cons']; trivial
    refine w_lcI (ms.map e) ((num ms).map dN) (fun Q' h => ?_) (by simp [num_len]) (by simp; omega) (fun i x r hx hr => ?_) ?_
    · trivial
      exact ⟨_, hd, h⟩
    · rw [List.getElem?_map, Option.map_eq_some_iff] at hx hr
      obtain ⟨m, hm, rfl⟩ := hx
      obtain ⟨n, hn, rfl⟩ := hr
      have mm : m ∈ ms := List.mem_of_getElem? hm
      have hsub : ∀ y ∈ uq ms, y ∈ ms := fun y hy => mem_uq.mp hy
      trivial
      intro P hP
      rw [o_ixDx]
      refine ⟨k.key hsub mm, dN n, ?_, hP _⟩
      rw [k.get mm hsub (by simp)]
      unfold num at hn
      rw [List.getElem?_map, hm] at hn
      cases hn
      rw [List.getElem?_map, List.getElem?_range (idx_lt (mem_uq.mpr mm))]; rfl
    · trivial
      exact hQ

/-! ### keys -/
theorem nks_nums : ∀ l : List Nat, nks (l.map dN) = some (l.map fun (n : Nat) => NestedKey.num (n : Int))
  | [] => rfl
  | n :: l => by
    show (some (NestedKey.num n)).bind (fun k => (nks (l.map dN)).map fun ks => k :: ks) = _
    rw [nks_nums l]; rfl
theorem depth_nums : ∀ l : List Nat, NestedKey.depthAll (l.map fun (n : Nat) => NestedKey.num (n : Int)) ≤ NestedKey.depth (.num 0)
  | [] => by simp [NestedKey.depthAll]
  | n :: l => by
    have := depth_nums l
    simp only [List.map_cons, NestedKey.depthAll, NestedKey.depth] at this ⊢
    omega
def dM (m : Nat × List Nat) : D := .tup [dN m.1, .tup (m.2.map dN)]
theorem nk_dM (m : Nat × List Nat) : nk (dM m) = some (.tup [.num m.1, .tup (m.2.map fun (n : Nat) => NestedKey.num (n : Int))]) := by
  have : nk (.tup (m.2.map dN)) = some (.tup (m.2.map fun (n : Nat) => NestedKey.num (n : Int))) := by
    show (nks _).map _ = _
    rw [nks_nums]; rfl
  show (Option.bind (some (NestedKey.num m.1)) fun k => (Option.bind (nk (.tup (m.2.map dN))) fun k' => (some []).map fun ks => k' :: ks).map fun ks => k :: ks).map _ = _
  rw [this]; rfl
theorem nums_inj : ∀ {a b : List Nat}, (a.map fun (n : Nat) => NestedKey.num (n : Int)) = (b.map fun (n : Nat) => NestedKey.num (n : Int)) → a = b
  | [], [], _ => rfl
  | [], _ :: _, h => by cases h
  | _ :: _, [], h => by cases h
  | x :: a, y :: b, h => by
    simp only [List.map_cons, List.cons.injEq, NestedKey.num.injEq, Int.ofNat_inj] at h
    rw [h.1, nums_inj h.2]
theorem keys_dM (l : List (Nat × List Nat)) : Keys dM l where
  inj := fun x _ y _ h => by
    rw [nk_dM, nk_dM] at h
    simp only [Option.some.injEq, NestedKey.tup.injEq, List.cons.injEq, NestedKey.num.injEq, Int.ofNat_inj, and_true] at h
    exact Prod.ext h.1 (nums_inj h.2)
  same := fun _ _ _ _ => rfl
  ok := fun x _ => ⟨by show 2 < 3; omega, _, nk_dM x, by
    have := depth_nums x.2
    simp only [NestedKey.depth, NestedKey.depthAll] at this ⊢
    omega⟩
theorem keys_bl (l : List Bool) : Keys D.bl l where
  inj := fun x _ y _ h => by cases x <;> cases y <;> simp [nk] at h <;> rfl
  same := fun _ _ _ _ => rfl
  ok := fun x _ => ⟨by show 1 < 3; omega, _, rfl, by simp [NestedKey.depth]⟩
theorem keys_dN (l : List Nat) : Keys dN l where
  inj := fun x _ y _ h => by simp [nk] at h; omega
  same := fun _ _ _ _ => rfl
  ok := fun x _ => ⟨by show 0 < 3; omega, _, rfl, by simp [NestedKey.depth]⟩

/-! ### parts of a form -/
section
variable {f : Form} {s : Nat} {W : D → Prop} {c l : List Nat} {j : Nat} {p : Bool × List Nat}
theorem i_F (h : s < f.length) : wIdx (dF f) (.int (s : Int)) W ↔ W (dS (st f s)) := by
  have : L2.atI (f.map dS) (s : Int) = some (dS (st f s)) := by rw [atI_nat (by simpa using h), st_get h]; simp
  show (∃ d, L2.atI (f.map dS) (s : Int) = some d ∧ W d) ↔ _
  rw [this]; simp
theorem i_S0 : wIdx (dS p) (.int 0) W ↔ W (.bl p.1) := by
  show (∃ d, L2.atI [D.bl p.1, .tup (p.2.map dN)] 0 = some d ∧ W d) ↔ _
  have : L2.atI [D.bl p.1, .tup (p.2.map dN)] 0 = some (.bl p.1) := rfl
  rw [this]; simp
theorem i_S1 : wIdx (dS p) (.int 1) W ↔ W (.tup (p.2.map dN)) := by
  show (∃ d, L2.atI [D.bl p.1, .tup (p.2.map dN)] 1 = some d ∧ W d) ↔ _
  have : L2.atI [D.bl p.1, .tup (p.2.map dN)] 1 = some (.tup (p.2.map dN)) := rfl
  rw [this]; simp
theorem a_N (h : j < c.length) : L2.atI (c.map dN) (j : Int) = some (dN (cl c j)) := by
  rw [atI_nat (by simpa using h)]; unfold cl; rw [getD_lt h]; simp
theorem i_N (h : j < c.length) : wIdx (.tup (c.map dN)) (.int (j : Int)) W ↔ W (dN (cl c j)) := by
  have : L2.atI (c.map dN) (j : Int) = some (dN (cl c j)) := by
    rw [atI_nat (by simpa using h)]; unfold cl; rw [getD_lt h]; simp
  show (∃ d, L2.atI (c.map dN) (j : Int) = some d ∧ W d) ↔ _
  rw [this]; simp
theorem i_NL (h : j < c.length) : wIdx (.lst (c.map dN)) (.int (j : Int)) W ↔ W (dN (cl c j)) := by
  have : L2.atI (c.map dN) (j : Int) = some (dN (cl c j)) := by
    rw [atI_nat (by simpa using h)]; unfold cl; rw [getD_lt h]; simp
  show (∃ d, L2.atI (c.map dN) (j : Int) = some d ∧ W d) ↔ _
  rw [this]; simp
theorem o_lenF {Q : R → Prop} : wFn1 .len (dF f) Q = Q (false, .int (f.length : Int)) := by
  show Q (false, .int ((f.map dS).length : Int)) = _
  rw [List.length_map]
theorem int_range (n : Nat) : ((List.range ((n : Int)).toNat).map fun (k : Nat) => D.int (k : Int)) = (List.range n).map dN := by rw [Int.toNat_natCast]
end
/-- small enough for lists -/
structure Small (wide : Nat) (f : Form) : Prop where
  n : f.length < 2 ^ 20
  w : wide < 2 ^ 10
theorem startE_2 {n : Nat} {a b : D} : startE (n + 2) [a, b] = some (false, a) :: some (false, b) :: List.replicate n none := by simp [startE]
theorem size_eq : sizeLine = 2 ^ 24 := rfl
/-- tuple([classes[move] for move in form[k][1]]) -/
theorem moves_lc {G : Str → Option (Nat × Ctr)} {E : XD → VE → Prop} {Q : R → VE → Prop} {env : VE} {wide : Nat} {f : Form} {g : Nat → Nat} {sm sf sk sc : Nat} {k : Nat}
    (F : Wf wide f) (S : Small wide f) (hk : k < f.length) (hf : env[sf]? = some (some (false, dF f))) (hkk : env[sk]? = some (some (false, dN k)))
    (hi : ∀ m, m ∈ (st f k).2 → ∀ P : R → VE → Prop, (∀ o, P (o, dN (g m)) ((env.set sm none).set sm (some (false, dN m)))) → wE G E (.idx (.var sc) (.var sm)) ((env.set sm none).set sm (some (false, dN m))) P) (hQ : Q (true, .lst (((st f k).2.map g).map dN)) env) :
    wE G E (.lc [] (.idx (.var sc) (.var sm)) (.nm sm) (.seq (.idx (.idx (.var sf) (.var sk)) (.int 1))) .none) env Q := by
  have hw : (st f k).2.length < 2 ^ 10 := by rw [F.len hk]; exact S.w
  refine w_lcI ((st f k).2.map dN) (((st f k).2.map g).map dN) (fun Q' h => ?_) (by simp) (by rw [List.length_map, size_eq]; omega) (fun i x r hx hr => ?_) hQ
  · trivial
    rw [hf]; simp only []
    rw [hkk]; simp only []
    rw [i_F hk, i_S1]
    exact ⟨_, rfl, h⟩
  · rw [List.getElem?_map, Option.map_eq_some_iff] at hx
    obtain ⟨m, hm, rfl⟩ := hx
    rw [List.getElem?_map, List.getElem?_map, hm] at hr; cases hr
    trivial
    intro P hP
    exact hi m (List.mem_of_getElem? hm) P hP
def ctSplit : Ctr := fun ds Q _ => ∃ (wide : Nat) (f : Form) (c : List Nat), ds = [dF f, .tup (c.map dN)] ∧ Wf wide f ∧ Small wide f ∧ c.length = f.length ∧ Q (false, .tup ((split f c).map dN))
theorem b_split {G : Str → Option (Nat × Ctr)} (hG : G "numbered" = some (1, ctNumbered)) : Body G 5 c_split_classes ctSplit := by
  rintro ds Q E ⟨wide, f, c, rfl, F, S, hc, hQ⟩
  have hn := S.n
  unfold c_split_classes
  rw [startE_2]
  show wCs _ _ _ [some (false, dF f), some (false, .tup (c.map dN)), none, none, none] _
  rw [cs_cons']; trivial
  refine w_lcI ((List.range f.length).map dN) ((marks f c).map dM) (fun Q' h => ?_) (by simp [mk_len]) (by simp [size_eq]; omega) (fun i x r hx hr => ?_) ?_
  · trivial
    rw [o_lenF]; simp only []
    rw [int_range]
    exact ⟨by omega, by omega, h⟩
  · rw [List.getElem?_map, Option.map_eq_some_iff] at hx hr
    obtain ⟨k, hk, rfl⟩ := hx
    obtain ⟨m, hm, rfl⟩ := hr
    have hi : i < f.length := by have := (List.getElem?_eq_some_iff.mp hk).1; simpa using this
    rw [List.getElem?_range hi] at hk; cases hk
    rw [List.getElem?_eq_getElem (by rw [mk_len]; exact hi), mk_get hi] at hm; cases hm
    trivial
    intro P hP
    refine ⟨_, a_N (by omega), ?_⟩
    refine moves_lc (k := i) (g := cl c) F S hi rfl rfl (fun m hm P hP => ?_) ?_
    · have : m < c.length := by rw [hc]; exact F.lt _ (st_mem hi) m hm
      trivial
      exact ⟨_, a_N this, hP _⟩
    · trivial
      refine ⟨by rw [size_eq]; omega, ?_⟩
      exact hP false
  · trivial
    rw [cs_cons']; trivial
    refine ⟨_, hG, rfl, _, _, inferInstance, dM, marks f c, rfl, rfl, keys_dM _, by rw [mk_len, size_eq]; omega, hQ⟩

theorem allI_N : ∀ l : List Nat, allI (l.map dN) = some (l.map fun (n : Nat) => (n : Int))
  | [] => rfl
  | n :: l => by
    show (allI (l.map dN)).map _ = _
    rw [allI_N l]; rfl
theorem max_N {c : List Nat} {m : Int} (h : Numd c) (h1 : m ∈ c.map fun (n : Nat) => (n : Int)) (h2 : ∀ y, y ∈ (c.map fun (n : Nat) => (n : Int)) → y ≤ m) : m + 1 = (uq c).length := by
  obtain ⟨n, hn, rfl⟩ := List.mem_map.mp h1
  have a := h.lt n hn
  have hm : (uq c).length - 1 ∈ c := h.mem (by omega)
  have b := h2 _ (List.mem_map_of_mem hm)
  omega
def ctLike : Ctr := fun ds Q _ => ∃ (wide : Nat) (f : Form), ds = [dF f] ∧ Wf wide f ∧ Small wide f ∧ ∀ c, LC wide f c → Q (false, .tup (c.map dN))
theorem b_like {G : Str → Option (Nat × Ctr)} (hG : G "numbered" = some (1, ctNumbered)) (hG2 : G "split_classes" = some (2, ctSplit)) : Body G 5 c_like_classes ctLike := by
  rintro ds Q E ⟨wide, f, rfl, F, S, hQ⟩
  have hn := S.n
  have hp := F.pos
  unfold c_like_classes
  rw [startE_1]
  show wCs _ _ _ [some (false, dF f), none, none, none, none] _
  rw [cs_cons']; trivial
  refine ⟨_, hG, ?_⟩
  refine w_lcI (f.map dS) ((f.map (·.1)).map D.bl) (fun Q' h => ?_) (by simp) (by simp [size_eq]; omega) (fun i x r hx hr => ?_) ?_
  · trivial
    exact ⟨_, rfl, h⟩
  · rw [List.getElem?_map, Option.map_eq_some_iff] at hx
    obtain ⟨m, hm, rfl⟩ := hx
    rw [List.getElem?_map, List.getElem?_map, hm] at hr; cases hr
    unfold dS
    trivial
    intro P hP
    exact hP _
  · trivial
    refine ⟨True.intro, _, _, inferInstance, D.bl, f.map (·.1), rfl, rfl, keys_bl _, by simp [size_eq]; omega, ?_⟩
    dsimp only
    have I0 : LI wide f (num (f.map (·.1))) := LI.start
    generalize num (f.map (·.1)) = c at I0
    rw [cs_cons']; trivial
    refine ⟨_, hG2, rfl, wide, f, c, rfl, F, S, I0.len, ?_⟩
    dsimp only
    rw [cs_cons', c_while]
    refine ⟨fun m env => ∃ c, m = f.length - (uq c).length ∧ LI wide f c ∧ env = [some (false, dF f), some (false, .tup (c.map dN)), none, none, some (false, .tup ((split f c).map dN))], ⟨_, c, rfl, I0, rfl⟩, ?_⟩
    rintro m env ⟨c, rfl, I, rfl⟩
    have I2 := I.step F
    trivial
    refine ⟨_, allI_N _, by rw [List.length_map]; have := I2.len; omega, fun m1 a1 b1 => ⟨_, allI_N _, by rw [List.length_map]; have := I.len; omega, fun m2 a2 b2 => ?_⟩⟩
    have e1 := max_N I2.nm a1 b1
    have e2 := max_N I.nm a2 b2
    by_cases q : m2 < m1
    · rw [if_pos (by simpa using q)]
      rw [cs_cons']; trivial
      rw [cs_cons']; trivial
      refine ⟨_, hG2, rfl, wide, f, split f c, rfl, F, S, I2.len, ?_⟩
      refine ⟨f.length - (uq (split f c)).length, ?_, _, rfl, I2, rfl⟩
      have := uq_len (split f c)
      rw [I2.len] at this
      omega
    · rw [if_neg (by simpa using q)]
      rw [cs_cons']; trivial
      exact hQ c (I.done F (by omega))
def ctJoined : Ctr := fun ds Q _ => ∃ (wide : Nat) (f : Form) (c : List Nat), ds = [dF f, .tup (c.map dN)] ∧ Wf wide f ∧ Small wide f ∧ LC wide f c ∧ Q (false, dF (join f c))
theorem idx_take {c : List Nat} {x : Nat} {i : Nat} (h : x ∈ c.take i) : (c.take i).idxOf x = c.idxOf x := by
  conv => rhs; rw [← List.take_append_drop i c]
  rw [List.idxOf_append, if_pos h]
theorem b_joined {G : Str → Option (Nat × Ctr)} : Body G 5 c_joined ctJoined := by
  rintro ds Q E ⟨wide, f, c, rfl, F, S, L, hQ⟩
  have hn := S.n
  have hc := L.len
  unfold c_joined
  rw [startE_2]
  show wCs _ _ _ [some (false, dF f), some (false, .tup (c.map dN)), none, none, none] _
  rw [cs_cons']; trivial
  rw [cs_cons', c_for]; trivial
  rw [o_lenF]; simp only []
  rw [int_range]
  refine ⟨by omega, by omega, fun i env => ∃ z, env = [some (false, dF f), some (false, .tup (c.map dN)), some (true, .dct ((uq (c.take i)).map dN) (((uq (c.take i)).map c.idxOf).map dN)), z, none], ⟨_, rfl⟩, ?_, ?_⟩
  · rintro i x env hx ⟨z, rfl⟩
    have hi : i < f.length := by have := (List.getElem?_eq_some_iff.mp hx).1; simpa using this
    rw [List.getElem?_map, List.getElem?_range hi] at hx; cases hx
    have k := keys_dN c
    have hic : i < c.length := by omega
    have mm : cl c i ∈ c := cl_mem hic
    have hsub : ∀ y ∈ uq (c.take i), y ∈ c := fun y hy => List.mem_of_mem_take (mem_uq.mp hy)
    have hlen : (uq (c.take i)).length ≤ c.length := Nat.le_trans (uq_len _) (by rw [List.length_take]; omega)
    have hget : c[i]? = some (cl c i) := by unfold cl; rw [getD_lt hic]; simp [hic]
    have hs : uq (c.take (i + 1)) = if cl c i ∈ uq (c.take i) then uq (c.take i) else uq (c.take i) ++ [cl c i] := by rw [take_snoc hget, uq_snoc]
    trivial
    rw [cs_cons']; trivial
    refine ⟨_, a_N hic, k.key hsub mm, ?_⟩
    rw [k.get mm hsub (by simp)]
    simp only [hs]
    by_cases q : cl c i ∈ uq (c.take i)
    · rw [if_pos q]
      have : (List.map dN ((uq (c.take i)).map c.idxOf))[(uq (c.take i)).idxOf (cl c i)]? ≠ none := by
        rw [List.getElem?_map]
        intro z
        have := idx_lt q
        simp at z
        omega
      cases h : (List.map dN ((uq (c.take i)).map c.idxOf))[(uq (c.take i)).idxOf (cl c i)]? with
      | none => exact absurd h this
      | some y =>
        simp only [Option.isSome_some, Bool.not_true, Bool.false_eq_true, if_false, cs_nil']
        exact ⟨_, rfl⟩
    · rw [if_neg q, List.getElem?_eq_none (by rw [List.idxOf_eq_length q]; simp)]
      simp only [Option.isSome_none, Bool.not_false, if_true]
      rw [cs_cons']; trivial
      refine ⟨⟨_, rfl⟩, _, a_N hic, k.key hsub mm, by simp [size_eq]; omega, ?_⟩
      rw [dputK_new (k.new mm hsub q), dputV_new (by simp) (k.new mm hsub q)]
      have e : c.idxOf (cl c i) = i := by
        have h1 : cl c i ∉ c.take i := fun h => q (mem_uq.mpr h)
        have h2 : cl c i ∈ c.take (i + 1) := by rw [take_snoc hget]; simp
        rw [← idx_take h2, take_snoc hget, List.idxOf_append, if_neg h1]
        simp; omega
      exact ⟨some (false, dN i), by simp [e]⟩
  · rintro env ⟨z, rfl⟩
    rw [List.length_map, List.length_range, ← hc, List.take_length, cs_cons']; trivial
    refine w_lcI (((uq c).map c.idxOf).map dN) ((join f c).map dS) (fun Q' h => ?_) (by simp [jn_len]) ?_ (fun i x r hx hr => ?_) ?_
    · trivial
      exact h
    · have := uq_len c
      simp [size_eq]; omega
    · rw [List.getElem?_map, List.getElem?_map, Option.map_eq_some_iff] at hx
      obtain ⟨m, hm, rfl⟩ := hx
      rw [Option.map_eq_some_iff] at hm
      obtain ⟨y, hy, rfl⟩ := hm
      unfold join at hr
      rw [List.getElem?_map, List.getElem?_map, hy] at hr; cases hr
      have hy' := L.nm.lt y (mem_uq.mp (List.mem_of_getElem? hy))
      have hk := (rep_lt L hy').1
      trivial
      intro P hP
      rw [i_F hk, i_S0]
      refine moves_lc (k := c.idxOf y) (g := cl c) F S hk rfl rfl (fun m hm P hP => ?_) ?_
      · have : m < c.length := by rw [hc]; exact F.lt _ (st_mem hk) m hm
        trivial
        exact ⟨_, a_N this, hP _⟩
      · trivial
        refine ⟨by rw [size_eq]; omega, ?_⟩
        exact hP false
    · trivial
      exact hQ
def ctRenum : Ctr := fun ds Q _ => ∃ (wide : Nat) (f : Form) (met : List Nat), ds = [dF f, .tup (met.map dN)] ∧ Wf wide f ∧ Small wide f ∧ Met f met ∧ Q (false, dF (renum f met))
theorem met_len {wide : Nat} {f : Form} {met : List Nat} (F : Wf wide f) (m : Met f met) : met.length ≤ f.length := by
  have := m.nd.length_le_of_subset (l₂ := List.range f.length) fun x hx => List.mem_range.mpr (m.lt F x hx)
  rwa [List.length_range] at this
theorem b_renum {G : Str → Option (Nat × Ctr)} : Body G 6 c_renumbered ctRenum := by
  rintro ds Q E ⟨wide, f, met, rfl, F, S, M, hQ⟩
  have hn := S.n
  have hl := met_len F M
  unfold c_renumbered
  rw [startE_2]
  show wCs _ _ _ [some (false, dF f), some (false, .tup (met.map dN)), none, none, none, none] _
  rw [cs_cons']; trivial
  refine w_dcI ((List.range met.length).map dN) (met.map dN) ((List.range met.length).map dN) (fun Q' h => ?_) (by simp) (by simp) (by simp [size_eq]; omega) ?_ (fun a ha => ?_) (fun i x r r' hx hr hr' => ?_) ?_
  · trivial
    rw [List.length_map, int_range]
    exact ⟨by omega, by omega, h⟩
  · rw [List.map_map]
    have e : (met.map (nk ∘ dN)) = met.map fun (n : Nat) => some (NestedKey.num (n : Int)) := rfl
    rw [e, List.nodup_iff_pairwise_ne, List.pairwise_iff_getElem]
    intro i j hi hj hij z
    simp at z
    have := nd_inj M.nd (i := i) (j := j) (by simpa using hi) (by simpa using hj) (by omega)
    omega
  · obtain ⟨n, hn, rfl⟩ := List.mem_map.mp ha
    exact ⟨rfl, _, rfl, by simp [NestedKey.depth]⟩
  · have hi : i < met.length := by have := (List.getElem?_eq_some_iff.mp hx).1; simpa using this
    rw [List.getElem?_map, List.getElem?_range hi] at hx hr'; cases hx; cases hr'
    rw [List.getElem?_map, List.getElem?_eq_getElem hi] at hr; cases hr
    trivial
    refine ⟨fun P hP => ⟨_, a_N hi, ?_⟩, fun P hP => hP _⟩
    unfold cl
    rw [getD_lt hi]
    exact hP _
  · trivial
    rw [cs_cons']; trivial
    refine w_lcI (met.map dN) ((renum f met).map dS) (fun Q' h => ?_) (by simp [rn_len]) (by simp [size_eq]; omega) (fun i x r hx hr => ?_) ?_
    · trivial
      exact ⟨_, rfl, h⟩
    · rw [List.getElem?_map, Option.map_eq_some_iff] at hx
      obtain ⟨s, hs, rfl⟩ := hx
      unfold renum at hr
      rw [List.getElem?_map, List.getElem?_map, hs] at hr; cases hr
      have sm : s ∈ met := List.mem_of_getElem? hs
      have hk := M.lt F s sm
      trivial
      intro P hP
      rw [i_F hk, i_S0]
      refine moves_lc (k := s) (g := met.idxOf) F S hk rfl rfl (fun m hm P hP => ?_) ?_
      · have mm := M.closed sm hm
        trivial
        have k := keys_dN met
        refine ⟨k.key (fun _ h => h) mm, dN (met.idxOf m), ?_, hP _⟩
        rw [k.get mm (fun _ h => h) (by simp), List.getElem?_map, List.getElem?_range (idx_lt mm)]; rfl
      · trivial
        refine ⟨by rw [size_eq]; omega, ?_⟩
        exact hP false
    · trivial
      exact hQ

/-! ### the states that are met -/
structure MI (f : Form) (i : Nat) (u : List Nat) : Prop where
  eq : u = uq (0 :: (u.take i).flatMap (mvs f))
  go : ∀ k, k < i → k < (uq (0 :: (u.take k).flatMap (mvs f))).length
  le : i ≤ u.length
  lt : ∀ s ∈ u, s < f.length
theorem MI.start {wide : Nat} {f : Form} (F : Wf wide f) : MI f 0 [0] := ⟨rfl, fun k h => by omega, Nat.zero_le _, fun s hs => by rw [List.mem_singleton] at hs; subst hs; exact F.pos⟩
theorem MI.step {wide : Nat} {f : Form} {i : Nat} {u : List Nat} (F : Wf wide f) (m : MI f i u) (h : i < u.length) : MI f (i + 1) (uqA u (mvs f u[i])) := by
  obtain ⟨r, hr⟩ := uqA_pre (mvs f u[i]) u
  have tk : ∀ k, k ≤ u.length → (uqA u (mvs f u[i])).take k = u.take k := fun k hk => by rw [hr, List.take_append_of_le_length hk]
  have e : uqA u (mvs f u[i]) = uq (0 :: (u.take (i + 1)).flatMap (mvs f)) := by
    rw [List.take_succ_eq_append_getElem h, List.flatMap_append, ← List.cons_append, uq_append, ← m.eq]
    simp
  refine ⟨?_, fun k hk => ?_, ?_, fun s hs => ?_⟩
  · rw [tk (i + 1) (by omega)]; exact e
  · rw [tk k (by omega)]
    by_cases hk' : k < i
    · exact m.go k hk'
    · have : k = i := by omega
      subst this
      rw [← m.eq]; exact h
  · rw [hr, List.length_append]; omega
  · rcases mem_uqA.mp hs with h1 | h1
    · exact m.lt s h1
    · exact F.lt _ (st_mem (m.lt _ (List.getElem_mem h))) s h1
theorem MI.nd {f : Form} {i : Nat} {u : List Nat} (m : MI f i u) : u.Nodup := by rw [m.eq]; exact uq_nodup
theorem MI.len {f : Form} {i : Nat} {u : List Nat} (m : MI f i u) : u.length ≤ f.length := by
  have := m.nd.length_le_of_subset (l₂ := List.range f.length) fun x hx => List.mem_range.mpr (m.lt x hx)
  rwa [List.length_range] at this
theorem MI.done {f : Form} {i : Nat} {u : List Nat} (m : MI f i u) (h : u.length ≤ i) : Met f u := by
  have e : i = u.length := Nat.le_antisymm m.le h
  subst e
  refine ⟨?_, m.go⟩
  have := m.eq
  rwa [List.take_length] at this
def ctMet : Ctr := fun ds Q _ => ∃ (wide : Nat) (f : Form), ds = [dF f] ∧ Wf wide f ∧ Small wide f ∧ ∀ met, Met f met → Q (false, .tup (met.map dN))
theorem b_met {G : Str → Option (Nat × Ctr)} : Body G 5 c_met_states ctMet := by
  rintro ds Q E ⟨wide, f, rfl, F, S, hQ⟩
  have hn := S.n
  unfold c_met_states
  rw [startE_1]
  show wCs _ _ _ [some (false, dF f), none, none, none, none] _
  rw [cs_cons']; trivial
  refine ⟨rfl, ?_⟩
  rw [cs_cons']; trivial
  refine ⟨by rw [size_eq]; omega, ?_⟩
  rw [cs_cons']; trivial
  rw [cs_cons', c_while]
  refine ⟨fun m env => ∃ i u z, m = f.length - i ∧ MI f i u ∧ env = [some (false, dF f), some (true, .dct (u.map dN) (u.map fun _ => .bl true)), some (true, .lst (u.map dN)), some (false, dN i), z], ⟨_, 0, [0], _, rfl, MI.start F, rfl⟩, ?_⟩
  rintro m env ⟨i, u, z, rfl, I, rfl⟩
  have ul := I.len
  trivial
  by_cases q : i < u.length
  · rw [if_pos (by simpa using q)]
    have hu : u[i] < f.length := I.lt _ (List.getElem_mem q)
    have hw : (mvs f u[i]).length < 2 ^ 10 := by
      have : (mvs f u[i]).length = wide := F.len hu
      rw [this]; exact S.w
    rw [cs_cons', c_for]; trivial
    refine ⟨dN u[i], atI_get (by simp [q]), ?_⟩
    rw [i_F hu, i_S1]
    refine ⟨_, rfl, fun j env => ∃ z, env = [some (false, dF f), some (true, .dct ((uqA u ((mvs f u[i]).take j)).map dN) ((uqA u ((mvs f u[i]).take j)).map fun _ => .bl true)), some (true, .lst ((uqA u ((mvs f u[i]).take j)).map dN)), some (false, dN i), z], ⟨_, rfl⟩, ?_, ?_⟩
    · rintro j x env hx ⟨z, rfl⟩
      rw [List.getElem?_map, Option.map_eq_some_iff] at hx
      obtain ⟨mm, hm, rfl⟩ := hx
      have hs : uqA u ((mvs f u[i]).take (j + 1)) = if mm ∈ uqA u ((mvs f u[i]).take j) then uqA u ((mvs f u[i]).take j) else uqA u ((mvs f u[i]).take j) ++ [mm] := by
        rw [take_snoc (l := mvs f u[i]) hm, uqA_append]; rfl
      have hlen : (uqA u ((mvs f u[i]).take j)).length ≤ 2 ^ 20 + 2 ^ 10 := by
        have h1 := uqA_len ((mvs f u[i]).take j) u
        rw [List.length_take] at h1
        omega
      generalize uqA u ((mvs f u[i]).take j) = y at hs hlen
      have k := keys_dN (y ++ [mm])
      have km : mm ∈ y ++ [mm] := by simp
      have ks : ∀ z ∈ y, z ∈ y ++ [mm] := fun z hz => by simp [hz]
      trivial
      rw [cs_cons']; trivial
      refine ⟨k.key ks km, ?_⟩
      rw [k.get km ks (by simp)]
      simp only [hs]
      by_cases q : mm ∈ y
      · rw [if_pos q]
        have : (y.map fun _ => D.bl true)[y.idxOf mm]? = some (.bl true) := by
          rw [List.getElem?_map, List.getElem?_eq_getElem (idx_lt q)]; rfl
        rw [this]
        simp only [Option.isSome_some, Bool.not_true, Bool.false_eq_true, if_false, cs_nil']
        exact ⟨_, rfl⟩
      · rw [if_neg q, List.getElem?_eq_none (by rw [List.idxOf_eq_length q]; simp)]
        simp only [Option.isSome_none, Bool.not_false, if_true]
        rw [cs_cons']; trivial
        refine ⟨⟨_, rfl⟩, k.key ks km, by simp [size_eq]; omega, ?_⟩
        rw [dputK_new (k.new km ks q), dputV_new (by simp) (k.new km ks q)]
        rw [cs_cons']; trivial
        refine ⟨True.intro, by simp [size_eq]; omega, ?_⟩
        exact ⟨some (false, dN mm), by simp⟩
    · rintro env ⟨z, rfl⟩
      have e : (mvs f u[i]).take ((st f u[i]).2.map dN).length = mvs f u[i] := by rw [List.length_map]; exact List.take_length
      simp only [e]
      have I2 := I.step F q
      rw [cs_cons']; trivial
      exact ⟨f.length - (i + 1), by omega, i + 1, uqA u (mvs f u[i]), _, rfl, I2, rfl⟩
  · rw [if_neg (by simpa using q)]
    rw [cs_cons']; trivial
    exact hQ u (I.done (by omega))
end Vi
set_option Elab.async false
set_option linter.all false
set_option maxRecDepth 100000
/-! FmD: the program's forms: contracts, bodies (2). -/
namespace Vi
open PySem
local macro_rules | `(tactic| trivial) => `(tactic| simp only [w_var, w_non, w_bl, w_int, w_str, w_tup, w_lst, w_bin, w_cmp, w_chain, w_neg, w_notv, w_andv, w_orv, w_ife, w_idx, w_slc, w_call, w_fn1, w_fn2, w_isi, w_isiT, w_dnew, w_dnew1, w_nil, w_cons, w_onone, w_osome, w_val, w_not, w_and, w_or, w_tnone, w_tone, w_seqO, w_rng1, w_rng2, w_vals,
  c_set, c_setT, c_setIx, c_app, c_ex, c_retV, c_retN, c_ite, c_brk, c_cont, c_pass, cs_nil', b_var, b_non, b_bl, b_int, b_str, b_tup, b_lst, b_bin, b_cmp, b_chain, b_neg, b_notv, b_andv, b_orv, b_ife, b_idx, b_slc, b_call, b_fn1, b_fn2, b_isi, b_isiT, b_lc, b_dc, b_dnew, b_dnew1,
  r_non, r_bl, r_int, r_str, r_tup, r_lst, r_bin, r_cmp, r_chain, r_neg, r_notv, r_andv, r_orv, r_ife, r_idx, r_slc, r_call, r_fn1, r_fn2, r_isi, r_isiT, r_dnew, r_dnew1,
  List.getElem?_cons_zero, List.getElem?_cons_succ, List.set_cons_zero, List.set_cons_succ, frzL, frz1, itFz, wipeE, Tg.slots, bindT, bindTs,
  o_addI, o_addT, o_addL, o_sub, o_mulI, o_mulL, o_fdiv, o_mod, o_pow, o_lt, o_le, o_gt, o_ge, o_is, o_isn, o_mem, o_nmem, o_eqI, o_neI, o_ixL, o_ixT, o_ixD, o_ixDt, o_ixDb, o_slcL, o_slcT, o_lenL, o_lenT, o_lenD, o_intI, o_intB, o_tupL, o_tupT, o_lstL, o_lstT, o_maxL, o_maxT, o_abs, o_max2, o_min2, o_tN, o_tB, o_tI, o_tL, o_tT,
  Option.some.injEq, Bool.false_eq_true, if_true, if_false, ite_true, ite_false, Bool.not_true, Bool.not_false, List.length_cons, List.length_nil])
def ctStart : Ctr := fun ds Q _ => ∃ (wide : Nat) (f : Form), ds = [dF f] ∧ Wf wide f ∧ Small wide (withStart f) ∧ 1 ≤ wide ∧ Q (false, dF (withStart f))
theorem b_start {G : Str → Option (Nat × Ctr)} : Body G 6 c_with_start ctStart := by
  rintro ds Q E ⟨wide, f, rfl, F, S, hw, hQ⟩
  have hn := S.n
  have hw2 := S.w
  rw [ws_len] at hn
  have hp := F.pos
  have hl := F.len hp
  unfold c_with_start
  rw [startE_1]
  show wCs _ _ _ [some (false, dF f), none, none, none, none, none] _
  rw [cs_cons']; trivial
  refine w_lcI (f.map dS) ((f.map fun s => (s.1, s.2.map (· + 1))).map dS) (fun Q' h => ?_) (by simp) (by simp [size_eq]; omega) (fun i x r hx hr => ?_) ?_
  · trivial
    exact ⟨_, rfl, h⟩
  · rw [List.getElem?_map, Option.map_eq_some_iff] at hx
    obtain ⟨s, hs, rfl⟩ := hx
    rw [List.getElem?_map, List.getElem?_map, hs] at hr; cases hr
    have hsw := F.ww s (List.mem_of_getElem? hs)
    unfold dS
    trivial
    intro P hP
    refine w_lcI (s.2.map dN) ((s.2.map (· + 1)).map dN) (fun Q' h => ?_) (by simp) (by simp [size_eq]; omega) (fun i x r hx hr => ?_) ?_
    · trivial
      exact ⟨_, rfl, h⟩
    · rw [List.getElem?_map, Option.map_eq_some_iff] at hx
      obtain ⟨n, hn, rfl⟩ := hx
      rw [List.getElem?_map, List.getElem?_map, hn] at hr; cases hr
      trivial
      intro P hP
      exact hP _
    · trivial
      exact ⟨by rw [size_eq]; omega, hP _⟩
  · have h0 : L2.atI ((f.map fun s => (s.1, s.2.map (· + 1))).map dS) (0 : Int) = some (dS ((st f 0).1, (st f 0).2.map (· + 1))) := by
      have : (f.map fun s => (s.1, s.2.map (· + 1)))[0]? = some ((st f 0).1, (st f 0).2.map (· + 1)) := by
        rw [List.getElem?_map, List.getElem?_eq_getElem hp, st_get hp]; rfl
      exact atI_get (n := 0) (by rw [List.getElem?_map, this]; rfl)
    have hsi : HT.sIx ((st f 0).2.map (· + 1)).length 0 (some 1) = 1 := by
      rw [List.length_map, hl]
      exact (HT.sIx_nat wide 0 1).trans (by omega)
    have hcut : cutD (((st f 0).2.map (· + 1)).map dN) (some 1) none = (((st f 0).2.drop 1).map (· + 1)).map dN := by
      unfold cutD
      rw [show HT.sIx (((st f 0).2.map (· + 1)).map dN).length 0 (some 1) = 1 by rw [List.length_map]; exact hsi, HT.sIx_none]
      rw [List.map_drop, List.map_drop]
      apply List.take_of_length_le
      simp
    trivial
    rw [cs_cons']; trivial
    refine ⟨_, h0, ?_⟩
    rw [i_S0]
    refine ⟨by rw [size_eq]; omega, _, h0, ?_⟩
    rw [i_S1]
    trivial
    refine ⟨?_, by simp, ?_, by rw [size_eq]; omega, ?_⟩
    · rw [List.length_map, hsi]; omega
    · rw [hcut]; simp [size_eq]; omega
    · rw [hcut, cs_cons']; trivial
      refine ⟨by rw [size_eq]; omega, by simp, by simp [size_eq]; omega, ?_⟩
      exact hQ
/-! ### frozen -/
mutual
inductive Fz : Nat → D → D → Prop
  | flat {n d} : flat d = true → Fz n d d
  | seq {n d xs ys} : seqOf d = some xs → xs.length < sizeLine → FzAll n xs ys → Fz (n + 1) d (.tup ys)
inductive FzAll : Nat → List D → List D → Prop
  | nil {n} : FzAll n [] []
  | cons {n x y xs ys} : Fz n x y → FzAll n xs ys → FzAll n (x :: xs) (y :: ys)
end
theorem FzAll.length {n : Nat} : ∀ {xs ys : List D}, FzAll n xs ys → ys.length = xs.length
  | _, _, .nil => rfl
  | _, _, .cons _ t => by simp [FzAll.length t]
theorem FzAll.get {n : Nat} : ∀ {xs ys : List D} {i : Nat} {x y : D}, FzAll n xs ys → xs[i]? = some x → ys[i]? = some y → Fz n x y
  | _, _, _, _, _, .nil, h, _ => by simp at h
  | _, _, 0, _, _, .cons r _, h1, h2 => by simp at h1 h2; subst h1 h2; exact r
  | _, _, i + 1, _, _, .cons _ t, h1, h2 => FzAll.get t (i := i) (by simpa using h1) (by simpa using h2)
theorem FzAll.map {α : Type} {n : Nat} {g h : α → D} : ∀ {l : List α}, (∀ a ∈ l, Fz n (g a) (h a)) → FzAll n (l.map g) (l.map h)
  | [], _ => .nil
  | a :: l, q => .cons (q a List.mem_cons_self) (FzAll.map fun b hb => q b (List.mem_cons_of_mem _ hb))
def ctFrozen (n : Nat) : Ctr := fun ds Q _ => ∃ d r, ds = [d] ∧ Fz n d r ∧ Q (false, r)
theorem kit_flat {d : D} (h : flat d = true) : isPl d = true ∧ kitA (tyN d) ["list", "tuple"] = some false := by
  cases d <;> first | (cases h; done) | skip
  · exact ⟨rfl, show kitA "NoneType" ["list", "tuple"] = some false by decide +kernel⟩
  · exact ⟨rfl, show kitA "bool" ["list", "tuple"] = some false by decide +kernel⟩
  · exact ⟨rfl, show kitA "int" ["list", "tuple"] = some false by decide +kernel⟩
  · exact ⟨rfl, show kitA "str" ["list", "tuple"] = some false by decide +kernel⟩
theorem kit_seq {d : D} {xs : List D} (h : seqOf d = some xs) : isPl d = true ∧ kitA (tyN d) ["list", "tuple"] = some true := by
  cases d <;> first | (cases h; done) | skip
  · exact ⟨rfl, show kitA "tuple" ["list", "tuple"] = some true by decide +kernel⟩
  · exact ⟨rfl, show kitA "list" ["list", "tuple"] = some true by decide +kernel⟩
theorem b_frozen {n : Nat} {G : Str → Option (Nat × Ctr)} (hG : ∀ m, n = m + 1 → G "frozen" = some (1, ctFrozen m)) : Body G 2 c_frozen (ctFrozen n) := by
  rintro ds Q E ⟨d, r, rfl, h, hQ⟩
  unfold c_frozen
  rw [startE_1]
  show wCs _ _ _ [some (false, d), none] _
  rw [cs_cons']; trivial
  cases h with
  | flat h =>
    have hk := kit_flat h
    refine ⟨hk.1, false, hk.2, ?_⟩
    trivial
    rw [cs_cons']; trivial
    exact hQ
  | @seq m d xs ys hs hz ha =>
    have hk := kit_seq hs
    refine ⟨hk.1, true, hk.2, ?_⟩
    trivial
    rw [cs_cons']; trivial
    refine w_lcI xs ys (fun Q' h => ?_) ha.length (by omega) (fun i x r hx hr => ?_) ?_
    · trivial
      exact ⟨_, hs, h⟩
    · trivial
      intro P hP
      refine ⟨_, hG m rfl, rfl, x, r, rfl, ha.get hx hr, hP _⟩
    · trivial
      exact hQ
/-! ### the least form -/
def ctLeastOf : Ctr := fun ds Q _ => ∃ (wide : Nat) (f : Form), ds = [dF f] ∧ Wf wide f ∧ Small wide (withStart f) ∧ 1 ≤ wide ∧ ∀ t, LF wide (withStart f) t → Q (false, dF t)
theorem b_leastOf {G : Str → Option (Nat × Ctr)} (g1 : G "with_start" = some (1, ctStart)) (g2 : G "renumbered" = some (2, ctRenum)) (g3 : G "met_states" = some (1, ctMet)) (g4 : G "joined" = some (2, ctJoined)) (g5 : G "like_classes" = some (1, ctLike)) : Body G 4 c_least_of ctLeastOf := by
  rintro ds Q E ⟨wide, f, rfl, F, S, hw, hQ⟩
  have F1 := ws_wf F hw
  unfold c_least_of
  rw [startE_1]
  show wCs _ _ _ [some (false, dF f), none, none, none] _
  rw [cs_cons']; trivial
  refine ⟨_, g1, rfl, wide, f, rfl, F, S, hw, ?_⟩
  dsimp only
  rw [cs_cons']; trivial
  refine ⟨_, g2, _, g3, rfl, wide, _, rfl, F1, S, fun m1 M1 => ⟨rfl, wide, _, m1, rfl, F1, S, M1, ?_⟩⟩
  dsimp only
  have F2 := rn_wf F1 M1
  have S2 : Small wide (renum (withStart f) m1) := ⟨by have := met_len F1 M1; have := S.n; rw [rn_len]; omega, S.w⟩
  rw [cs_cons']; trivial
  refine ⟨_, g4, _, g5, rfl, wide, _, rfl, F2, S2, fun c C => ⟨rfl, wide, _, c, rfl, F2, S2, C, ?_⟩⟩
  dsimp only
  have F3 := jn_wf F2 C
  have S3 : Small wide (join (renum (withStart f) m1) c) := ⟨by have := uq_len c; have := C.len; have := S2.n; rw [jn_len]; omega, S.w⟩
  rw [cs_cons']; trivial
  refine ⟨_, g2, _, g3, rfl, wide, _, rfl, F3, S3, fun m2 M2 => ⟨rfl, wide, _, m2, rfl, F3, S3, M2, ?_⟩⟩
  exact hQ _ (LF.of F1 M1 C M2)
def ctLeast : Ctr := fun ds Q _ => ∃ (wide : Nat) (f : Form) (d w : D), ds = [d, w] ∧ Fz 3 d (dF f) ∧ Wf wide f ∧ Small wide (withStart f) ∧ 1 ≤ wide ∧ ∀ t, LF wide (withStart f) t → Q (false, dF t)
theorem b_least {G : Str → Option (Nat × Ctr)} (g1 : G "frozen" = some (1, ctFrozen 3)) (g2 : G "least_of" = some (1, ctLeastOf)) : Body G 2 c_least_form ctLeast := by
  rintro ds Q E ⟨wide, f, d, w, rfl, hz, F, S, hw, hQ⟩
  unfold c_least_form
  rw [startE_2]
  show wCs _ _ _ [some (false, d), some (false, w)] _
  rw [cs_cons']; trivial
  exact ⟨_, g2, _, g1, rfl, _, _, rfl, hz, rfl, wide, f, rfl, F, S, hw, hQ⟩
end Vi
set_option Elab.async false
set_option linter.all false
set_option maxRecDepth 100000
/-! FmE: the law of least forms: contracts, bodies. -/
namespace Vi
open PySem
local macro_rules | `(tactic| trivial) => `(tactic| simp only [w_var, w_non, w_bl, w_int, w_str, w_tup, w_lst, w_bin, w_cmp, w_chain, w_neg, w_notv, w_andv, w_orv, w_ife, w_idx, w_slc, w_call, w_fn1, w_fn2, w_isi, w_isiT, w_dnew, w_dnew1, w_nil, w_cons, w_onone, w_osome, w_val, w_not, w_and, w_or, w_tnone, w_tone, w_seqO, w_rng1, w_rng2, w_vals,
  c_set, c_setT, c_setIx, c_app, c_ex, c_retV, c_retN, c_ite, c_brk, c_cont, c_pass, cs_nil', b_var, b_non, b_bl, b_int, b_str, b_tup, b_lst, b_bin, b_cmp, b_chain, b_neg, b_notv, b_andv, b_orv, b_ife, b_idx, b_slc, b_call, b_fn1, b_fn2, b_isi, b_isiT, b_lc, b_dc, b_dnew, b_dnew1,
  r_non, r_bl, r_int, r_str, r_tup, r_lst, r_bin, r_cmp, r_chain, r_neg, r_notv, r_andv, r_orv, r_ife, r_idx, r_slc, r_call, r_fn1, r_fn2, r_isi, r_isiT, r_dnew, r_dnew1,
  List.getElem?_cons_zero, List.getElem?_cons_succ, List.set_cons_zero, List.set_cons_succ, frzL, frz1, itFz, wipeE, Tg.slots, bindT, bindTs,
  o_addI, o_addT, o_addL, o_sub, o_mulI, o_mulL, o_fdiv, o_mod, o_pow, o_lt, o_le, o_gt, o_ge, o_is, o_isn, o_mem, o_nmem, o_eqI, o_neI, o_ixL, o_ixT, o_ixD, o_ixDt, o_ixDb, o_slcL, o_slcT, o_lenL, o_lenT, o_lenD, o_intI, o_intB, o_tupL, o_tupT, o_lstL, o_lstT, o_maxL, o_maxT, o_abs, o_max2, o_min2, o_tN, o_tB, o_tI, o_tL, o_tT,
  Option.some.injEq, Bool.false_eq_true, if_true, if_false, ite_true, ite_false, Bool.not_true, Bool.not_false, List.length_cons, List.length_nil])
theorem startE_3 {n : Nat} {a b c : D} : startE (n + 3) [a, b, c] = some (false, a) :: some (false, b) :: some (false, c) :: List.replicate n none := by simp [startE]
def ctWhole : Ctr := fun ds Q _ => ∃ i : Int, ds = [.int i] ∧ Q (false, .bl true)
theorem kit_ii : L2.kitB "int" "int" = some true := by decide +kernel
theorem kit_ib : L2.kitB "int" "bool" = some false := by decide +kernel
theorem kit_tt : L2.kitB "tuple" "tuple" = some true := by decide +kernel
theorem b_whole {G : Str → Option (Nat × Ctr)} : Body G 1 c_law_whole ctWhole := by
  rintro ds Q E ⟨i, rfl, hQ⟩
  unfold c_law_whole
  rw [startE_1]
  show wCs _ _ _ [some (false, .int i)] _
  rw [cs_cons']; trivial
  refine ⟨rfl, true, kit_ii, ?_⟩
  trivial
  refine ⟨rfl, false, kit_ib, ?_⟩
  trivial
  exact hQ
def ctCell : Ctr := fun ds Q _ => ∃ (xs : List Int) (k : Int), ds = [.lst (xs.map D.int), .int k] ∧ 0 ≤ k ∧ k ≤ 1000 ∧ xs.length < sizeLine ∧ ∀ v : Int, Q (false, .int v)
theorem b_cell {G : Str → Option (Nat × Ctr)} : Body G 4 c_law_cell ctCell := by
  rintro ds Q E ⟨xs, k, rfl, h0, h1, hz, hQ⟩
  unfold c_law_cell
  rw [startE_2]
  show wCs _ _ _ [some (false, .lst (xs.map D.int)), some (false, .int k), none, none] _
  rw [cs_cons']; trivial
  by_cases q : k < (xs.map D.int).length
  · rw [if_pos (by simpa using q)]
    obtain ⟨n, rfl⟩ := Int.eq_ofNat_of_zero_le h0
    rw [cs_cons']; trivial
    have hn : n < xs.length := by simpa using q
    exact ⟨.int xs[n], atI_get (by simp [hn]), hQ _⟩
  · rw [if_neg (by simpa using q)]
    rw [cs_cons']; trivial
    rw [cs_cons', c_for]; trivial
    refine ⟨_, rfl, fun i env => ∃ (s : Int) (z : SV), 0 ≤ s ∧ s < 1000003 ∧ env = [some (false, .lst (xs.map D.int)), some (false, .int k), some (false, .int s), z], ⟨17, _, by omega, by omega, rfl⟩, ?_, ?_⟩
    · rintro i x env hx ⟨s, z, s0, s1, rfl⟩
      rw [List.getElem?_map, Option.map_eq_some_iff] at hx
      obtain ⟨v, hv, rfl⟩ := hx
      trivial
      rw [cs_cons']; trivial
      refine ⟨.inr ⟨by omega, by omega⟩, by omega, by omega, ?_⟩
      exact ⟨_, _, by omega, by omega, rfl⟩
    · rintro env ⟨s, z, s0, s1, rfl⟩
      rw [cs_cons']; trivial
      refine ⟨.inl ⟨by omega, by omega⟩, .inr ⟨by omega, by omega⟩, by omega, hQ _⟩
/-- digits below their sizes -/
inductive Bd : List Int → List Int → Prop
  | nil : Bd [] []
  | cons {x s xs ss} : 0 ≤ x → x < s → Bd xs ss → Bd (x :: xs) (s :: ss)
theorem Bd.snoc {x s : Int} (h0 : 0 ≤ x) (h1 : x < s) : ∀ {xs ss : List Int}, Bd xs ss → Bd (xs ++ [x]) (ss ++ [s])
  | _, _, .nil => .cons h0 h1 .nil
  | _, _, .cons a b t => .cons a b (Bd.snoc h0 h1 t)
theorem Bd.length : ∀ {xs ss : List Int}, Bd xs ss → xs.length = ss.length
  | _, _, .nil => rfl
  | _, _, .cons _ _ t => by simp [Bd.length t]
theorem Bd.get : ∀ {xs ss : List Int} {i : Nat} {s : Int}, Bd xs ss → ss[i]? = some s → ∃ x, xs[i]? = some x ∧ 0 ≤ x ∧ x < s
  | _, _, _, _, .nil, h => by simp at h
  | _, _, 0, _, .cons a b _, h => by simp at h; subst h; exact ⟨_, rfl, a, b⟩
  | _, _, i + 1, s, .cons _ _ t, h => by
    obtain ⟨x, h1, h2⟩ := Bd.get (i := i) (s := s) t (by simpa using h)
    exact ⟨x, by simpa using h1, h2⟩
def ctDigits : Ctr := fun ds Q _ => ∃ (c : Int) (ss : List Int), ds = [.int c, .lst (ss.map D.int)] ∧ (∀ s ∈ ss, 0 < s ∧ s < 1073741824) ∧ ss.length < 2 ^ 20 ∧ ∀ row, Bd row ss → Q (true, .lst (row.map D.int))
theorem b_digits {G : Str → Option (Nat × Ctr)} : Body G 8 c_law_digits ctDigits := by
  rintro ds Q E ⟨c, ss, rfl, hs, hz, hQ⟩
  unfold c_law_digits
  rw [startE_2]
  show wCs _ _ _ [some (false, .int c), some (false, .lst (ss.map D.int)), none, none, none, none, none, none] _
  rw [cs_cons']; trivial
  refine ⟨by rw [size_eq]; omega, ?_⟩
  rw [cs_cons']; trivial
  rw [cs_cons']; trivial
  have hpow : L2.CPow 10 18 := ⟨by omega, by omega, by decide⟩
  refine ⟨hpow, ?_⟩
  generalize hb : decide ((10 : Int) ^ Int.toNat 18 ≤ c) = b
  cases b with
  | true =>
    rw [if_pos rfl, cs_cons']; trivial
    refine ⟨hpow, ?_⟩
    rw [cs_cons', c_for]; trivial
    refine ⟨_, rfl, fun i env => ∃ (row : List Int) (r : Int) (z : SV), Bd row (ss.take i) ∧ env = [some (false, .int c), some (false, .lst (ss.map D.int)), some (true, .lst (row.map D.int)), some (false, .int r), z, none, none, none], ⟨[], _, _, .nil, rfl⟩, ?_, ?_⟩
    · rintro i x env hx ⟨row, r, z, hb, rfl⟩
      rw [List.getElem?_map, Option.map_eq_some_iff] at hx
      obtain ⟨s, h1, rfl⟩ := hx
      have hs' := hs s (List.mem_of_getElem? h1)
      have hlen := hb.length
      rw [List.length_take] at hlen
      trivial
      rw [cs_cons']; trivial
      refine ⟨hs'.1, True.intro, by rw [List.length_map, size_eq]; omega, ?_⟩
      rw [cs_cons']; trivial
      refine ⟨hs', row ++ [r % s], r / s, some (false, .int s), ?_, ?_⟩
      · rw [take_snoc h1]
        exact hb.snoc (Int.emod_nonneg _ (by omega)) (Int.emod_lt_of_pos _ hs'.1)
      · rw [List.map_append]; rfl
    · rintro env ⟨row, r, z, hb, rfl⟩
      rw [List.length_map, List.take_length] at hb
      rw [cs_cons']; trivial
      exact hQ row hb
  | false =>
    rw [if_neg (by simp)]
    rw [cs_cons']; trivial
    refine ⟨by omega, ?_⟩
    rw [cs_cons', c_for]; trivial
    rw [List.length_map, int_range]
    refine ⟨by omega, by omega, fun i env => ∃ (row : List Int) (s : Int) (z z2 : SV), 0 ≤ s ∧ s < 2147483647 ∧ Bd row (ss.take i) ∧ env = [some (false, .int c), some (false, .lst (ss.map D.int)), some (true, .lst (row.map D.int)), some (false, .int c), none, some (false, .int s), z, z2], ⟨[], _, _, _, ?_, ?_, .nil, rfl⟩, ?_, ?_⟩
    · omega
    · omega
    · rintro i x env hx ⟨row, s, z, z2, s0, s1, hb, rfl⟩
      have hi : i < ss.length := by have := (List.getElem?_eq_some_iff.mp hx).1; simpa using this
      rw [List.getElem?_map, List.getElem?_range hi] at hx; cases hx
      have hlen := hb.length
      rw [List.length_take] at hlen
      have hs' := hs _ (List.getElem_mem hi)
      trivial
      rw [cs_cons']; trivial
      refine ⟨.inr ⟨by omega, by omega⟩, .inl ⟨by omega, by omega⟩, by omega, ?_⟩
      generalize hv : (s * 48271 + 974711 * (i : Int) + 12345) % 2147483647 = v
      have v0 : 0 ≤ v := by omega
      have v1 : v < 2147483647 := by omega
      rw [cs_cons']; trivial
      refine ⟨⟨by omega, by omega⟩, .inl ⟨by omega, by omega⟩, by omega, ?_⟩
      generalize v * (v / 65537 + 3) = y
      rw [cs_cons']; trivial
      refine ⟨⟨by omega, by omega⟩, .int ss[i], atI_get (by simp [hi]), ?_⟩
      trivial
      refine ⟨hs'.1, True.intro, by rw [List.length_map, size_eq]; omega, ?_⟩
      refine ⟨row ++ [y % 2147483629 / 19 % ss[i]], v, some (false, dN i), some (false, .int (y % 2147483629)), v0, v1, ?_, ?_⟩
      · rw [take_snoc (List.getElem?_eq_getElem hi)]
        exact hb.snoc (Int.emod_nonneg _ (by omega)) (Int.emod_lt_of_pos _ hs'.1)
      · rw [List.map_append]; rfl
    · rintro env ⟨row, s, z, z2, s0, s1, hb, rfl⟩
      rw [List.length_map, List.length_range, List.take_length] at hb
      rw [cs_cons']; trivial
      exact hQ row hb
end Vi
set_option Elab.async false
set_option linter.all false
set_option maxRecDepth 100000
/-! FmF: the law of least forms: contracts, bodies (2). -/
namespace Vi
open PySem
local macro_rules | `(tactic| trivial) => `(tactic| simp only [w_var, w_non, w_bl, w_int, w_str, w_tup, w_lst, w_bin, w_cmp, w_chain, w_neg, w_notv, w_andv, w_orv, w_ife, w_idx, w_slc, w_call, w_fn1, w_fn2, w_isi, w_isiT, w_dnew, w_dnew1, w_nil, w_cons, w_onone, w_osome, w_val, w_not, w_and, w_or, w_tnone, w_tone, w_seqO, w_rng1, w_rng2, w_vals,
  c_set, c_setT, c_setIx, c_app, c_ex, c_retV, c_retN, c_ite, c_brk, c_cont, c_pass, cs_nil', b_var, b_non, b_bl, b_int, b_str, b_tup, b_lst, b_bin, b_cmp, b_chain, b_neg, b_notv, b_andv, b_orv, b_ife, b_idx, b_slc, b_call, b_fn1, b_fn2, b_isi, b_isiT, b_lc, b_dc, b_dnew, b_dnew1,
  r_non, r_bl, r_int, r_str, r_tup, r_lst, r_bin, r_cmp, r_chain, r_neg, r_notv, r_andv, r_orv, r_ife, r_idx, r_slc, r_call, r_fn1, r_fn2, r_isi, r_isiT, r_dnew, r_dnew1,
  List.getElem?_cons_zero, List.getElem?_cons_succ, List.set_cons_zero, List.set_cons_succ, frzL, frz1, itFz, wipeE, Tg.slots, bindT, bindTs,
  o_addI, o_addT, o_addL, o_sub, o_mulI, o_mulL, o_fdiv, o_mod, o_pow, o_lt, o_le, o_gt, o_ge, o_is, o_isn, o_mem, o_nmem, o_eqI, o_neI, o_ixL, o_ixT, o_ixD, o_ixDt, o_ixDb, o_slcL, o_slcT, o_lenL, o_lenT, o_lenD, o_intI, o_intB, o_tupL, o_tupT, o_lstL, o_lstT, o_maxL, o_maxT, o_abs, o_max2, o_min2, o_tN, o_tB, o_tI, o_tL, o_tT,
  Option.some.injEq, Bool.false_eq_true, if_true, if_false, ite_true, ite_false, Bool.not_true, Bool.not_false, List.length_cons, List.length_nil])
def szs (wide upto : Nat) : List Int := 8 :: (if 32 < upto then 320 else 32) :: (List.replicate upto (8 :: List.replicate wide 840)).flatten
theorem szs_pos {wide upto : Nat} : ∀ s ∈ szs wide upto, 0 < s ∧ s < 1073741824 := fun s hs => by
  unfold szs at hs
  simp only [List.mem_cons, List.mem_flatten, List.mem_replicate] at hs
  rcases hs with rfl | rfl | ⟨l, ⟨_, rfl⟩, hs⟩
  · omega
  · split <;> omega
  · simp only [List.mem_cons, List.mem_replicate] at hs
    omega
theorem flat_len {α : Type} (l : List α) : ∀ n : Nat, (List.replicate n l).flatten.length = n * l.length
  | 0 => by simp
  | n + 1 => by rw [List.replicate_succ, List.flatten_cons, List.length_append, flat_len l n, Nat.succ_mul, Nat.add_comm]
theorem szs_len {wide upto : Nat} : (szs wide upto).length = 2 + upto * (wide + 1) := by
  unfold szs
  rw [List.length_cons, List.length_cons, flat_len]
  simp; omega
theorem flat_one {α : Type} (a : α) : ∀ n : Nat, (List.replicate n [a]).flatten = List.replicate n a
  | 0 => rfl
  | n + 1 => by rw [List.replicate_succ, List.flatten_cons, flat_one a n]; rfl
def ctSizes : Ctr := fun ds Q _ => ∃ wide upto : Nat, ds = [dN wide, dN upto] ∧ wide ≤ 8 ∧ upto ≤ 400 ∧ Q (true, .lst ((szs wide upto).map D.int))
theorem b_sizes {G : Str → Option (Nat × Ctr)} : Body G 2 c_law_sizes ctSizes := by
  rintro ds Q E ⟨wide, upto, rfl, h1, h2, hQ⟩
  have e : (if decide ((32 : Int) < (upto : Int)) = true then (1 : Int) else 0) = ((if 32 < upto then 1 else 0 : Nat) : Int) := by
    by_cases h : 32 < upto
    · rw [if_pos (by simp; omega), if_pos h]; rfl
    · rw [if_neg (by simp; omega), if_neg h]; rfl
  unfold c_law_sizes
  rw [startE_2]
  show wCs _ _ _ [some (false, dN wide), some (false, dN upto)] _
  rw [cs_cons']; trivial
  refine ⟨by rw [size_eq]; omega, .int (if 32 < upto then 320 else 32), ?_, by rw [size_eq]; omega, by rw [size_eq]; omega, by rw [size_eq]; omega, by omega, by omega, by rw [size_eq]; omega, ?_⟩
  · rw [e]
    by_cases h : 32 < upto
    · rw [if_pos h, if_pos h]; rfl
    · rw [if_neg h, if_neg h]; rfl
  · rw [flat_one, Int.toNat_natCast, Int.toNat_natCast]
    have hl : ([D.int 8] ++ List.replicate wide (D.int 840)).length ≤ 9 := by simp; omega
    refine ⟨by simp [size_eq]; omega, by omega, by omega, ?_, ?_, ?_⟩
    · have := Nat.mul_le_mul_right upto hl
      rw [size_eq]; omega
    · rw [flat_len]
      have := Nat.mul_le_mul_left upto hl
      rw [size_eq]; omega
    · have e2 : ([D.int 8, D.int (if 32 < upto then 320 else 32)] ++ (List.replicate upto ([D.int 8] ++ List.replicate wide (D.int 840))).flatten) = (szs wide upto).map D.int := by
        unfold szs
        simp [List.map_flatten]
      rw [e2]; exact hQ
/-! ### counted -/
def ctCounted : Ctr := fun ds Q _ => ∃ (wide : Nat) (t : Form), ds = [dF t] ∧ Wf wide t ∧ Small wide t ∧ Ord t ∧ Q (false, .bl true)
theorem range_pre {n : Nat} {a r : List Nat} (h : List.range n = a ++ r) : a = List.range a.length := by
  have := congrArg (List.take a.length) h
  rw [List.take_left, List.take_range] at this
  have hl := congrArg List.length h
  simp at hl
  rw [Nat.min_eq_left (by omega)] at this
  exact this.symm
theorem uq_range_pre {n : Nat} {a r : List Nat} (h : uq (a ++ r) = List.range n) : uq a = List.range (uq a).length := by
  obtain ⟨q, hq⟩ := uq_pre a r
  exact range_pre (h.symm.trans hq)
theorem uq_range_step {n : Nat} {a r : List Nat} {m : Nat} (h : uq (a ++ m :: r) = List.range n) : m ≤ (uq a).length ∧ (uq (a ++ [m])).length = if m = (uq a).length then (uq a).length + 1 else (uq a).length := by
  have h1 := uq_range_pre h
  have h2 : uq (a ++ [m]) = List.range (uq (a ++ [m])).length := uq_range_pre (r := r) (by simpa using h)
  rw [uq_snoc] at h2 ⊢
  by_cases q : m ∈ uq a
  · rw [if_pos q]
    rw [h1] at q
    have := List.mem_range.mp q
    rw [if_neg (by omega)]
    exact ⟨by omega, rfl⟩
  · rw [if_neg q] at h2 ⊢
    have e := congrArg (fun z => z[(uq a).length]?) h2
    simp only [List.length_append, List.length_cons, List.length_nil] at e
    rw [List.getElem?_append_right (Nat.le_refl _), List.getElem?_range (by omega)] at e
    simp at e
    rw [if_pos e]
    exact ⟨by omega, by simp⟩
theorem b_counted {G : Str → Option (Nat × Ctr)} : Body G 4 c_law_counted ctCounted := by
  rintro ds Q E ⟨wide, t, rfl, F, S, O, hQ⟩
  have hn := S.n
  unfold c_law_counted
  rw [startE_1]
  show wCs _ _ _ [some (false, dF t), none, none, none] _
  rw [cs_cons']; trivial
  rw [cs_cons', c_for]; trivial
  rw [o_lenF]; simp only []
  rw [int_range]
  refine ⟨by omega, by omega, fun k env => ∃ z z2, env = [some (false, dF t), some (false, dN (uq (0 :: (t.take k).flatMap (·.2))).length), z, z2], ⟨_, _, rfl⟩, ?_, ?_⟩
  · rintro k x env hx ⟨z, z2, rfl⟩
    have hk : k < t.length := by have := (List.getElem?_eq_some_iff.mp hx).1; simpa using this
    rw [List.getElem?_map, List.getElem?_range hk] at hx; cases hx
    have hg := O.go k hk
    trivial
    rw [cs_cons']; trivial
    rw [if_neg (by simp; omega)]
    rw [cs_cons', c_for]; trivial
    rw [i_F hk, i_S1]
    refine ⟨_, rfl, fun j env => ∃ z2, env = [some (false, dF t), some (false, dN (uq (0 :: (t.take k).flatMap (·.2) ++ (st t k).2.take j)).length), some (false, dN k), z2], ⟨z2, by simp⟩, ?_, ?_⟩
    · rintro j x env hx ⟨z2, rfl⟩
      rw [List.getElem?_map, Option.map_eq_some_iff] at hx
      obtain ⟨m, hm, rfl⟩ := hx
      have hj := (List.getElem?_eq_some_iff.mp hm).1
      have whole : uq ((0 :: (t.take k).flatMap (·.2) ++ (st t k).2.take j) ++ m :: ((st t k).2.drop (j + 1) ++ (t.drop (k + 1)).flatMap (·.2))) = List.range t.length := by
        rw [← O.eq]
        congr 1
        have e1 : (st t k).2 = (st t k).2.take j ++ m :: (st t k).2.drop (j + 1) := by
          conv => lhs; rw [← List.take_append_drop j (st t k).2, List.drop_eq_getElem_cons hj]
          rw [(List.getElem?_eq_some_iff.mp hm).2]
        have e2 : t = t.take k ++ st t k :: t.drop (k + 1) := by
          conv => lhs; rw [← List.take_append_drop k t, List.drop_eq_getElem_cons hk]
          rw [st_get hk]
        conv => rhs; rw [e2, List.flatMap_append, List.flatMap_cons, e1]
        simp
      obtain ⟨s1, s2⟩ := uq_range_step whole
      have s3 : uq (0 :: (t.take k).flatMap (·.2) ++ (st t k).2.take (j + 1)) = uq ((0 :: (t.take k).flatMap (·.2) ++ (st t k).2.take j) ++ [m]) := by
        rw [take_snoc hm, List.append_assoc]
      simp only [s3, s2]
      generalize (uq (0 :: (t.take k).flatMap (·.2) ++ (st t k).2.take j)).length = L at s1
      trivial
      rw [cs_cons']; trivial
      rw [if_neg (by simp; omega)]
      rw [cs_cons']; trivial
      by_cases q : m = L
      · rw [if_pos (by simp; omega), if_pos q]
        rw [cs_cons']; trivial
        exact ⟨some (false, dN m), by simp⟩
      · rw [if_neg (by simp; omega), if_neg q]
        exact ⟨_, rfl⟩
    · rintro env ⟨z2, rfl⟩
      rw [List.length_map, List.take_length]
      have e : uq (0 :: (t.take (k + 1)).flatMap (·.2)) = uq (0 :: (t.take k).flatMap (·.2) ++ (st t k).2) := by
        rw [List.take_succ_eq_append_getElem hk, List.flatMap_append, st_get hk]; simp
      simp only [e]
      exact ⟨_, _, rfl⟩
  · rintro env ⟨z, z2, rfl⟩
    rw [List.length_map, List.length_range, List.take_length, O.eq, List.length_range, cs_cons']; trivial
    rw [o_lenF]
    trivial
    simpa using hQ
/-! ### apart -/
structure LJ (wide : Nat) (f : Form) (c : List Nat) : Prop where
  len : c.length = f.length
  ends : ∀ i j, i < f.length → j < f.length → cl c i = cl c j → (st f i).1 = (st f j).1
  like : ∀ i j, i < f.length → j < f.length → Alike wide f i j → cl c i = cl c j
theorem LJ.step {wide : Nat} {f : Form} {c : List Nat} (F : Wf wide f) (h : LJ wide f c) : LJ wide f (split f c) where
  len := by unfold split; rw [num_len, mk_len]
  ends := fun i j hi hj e => h.ends i j hi hj ((sp_eq hi hj).mp e).1
  like := fun i j hi hj a => (sp_eq hi hj).mpr ⟨h.like i j hi hj a, (map_ext F hi hj _).mpr fun d hd => h.like _ _ (F.mvlt hi hd) (F.mvlt hj hd) (a.step hd)⟩
theorem LJ.done {wide : Nat} {f : Form} {c : List Nat} (F : Wf wide f) (h : LJ wide f c) (hs : (uq (split f c)).length ≤ (uq c).length) : ∀ (w : List Nat) (i j : Nat), i < f.length → j < f.length → cl c i = cl c j → Wd wide w → acc f i w = acc f j w := by
  intro w
  induction w with
  | nil => intro i j hi hj e _; exact h.ends i j hi hj e
  | cons d w ih =>
    intro i j hi hj e q
    have s := (sp_eq hi hj).mp (split_same h.len hs hi hj e)
    exact ih _ _ (F.mvlt hi q.hd) (F.mvlt hj q.hd) ((map_ext F hi hj _).mp s.2 d q.hd) q.tl
theorem uqA_of_nodup : ∀ {ms u : List Nat}, (u ++ ms).Nodup → uqA u ms = u ++ ms
  | [], u, _ => by simp [uqA]
  | m :: ms, u, h => by
    have hm : m ∉ u := fun q => by
      rw [List.nodup_append] at h
      exact h.2.2 m q m (by simp) rfl
    show uqA (if m ∈ u then u else u ++ [m]) ms = _
    rw [if_neg hm, uqA_of_nodup (by simpa using h)]
    simp
theorem LJ.all {wide : Nat} {f : Form} {c : List Nat} (F : Wf wide f) (h : LJ wide f c) (A : Apart wide f) (hs : (uq (split f c)).length ≤ (uq c).length) : (uq c).length = f.length := by
  have nd : c.Nodup := by
    rw [List.nodup_iff_pairwise_ne, List.pairwise_iff_getElem]
    intro i j hi hj hij e
    have := A i j (by rw [← h.len]; exact hi) (by rw [← h.len]; exact hj) fun w q => h.done F hs w i j (by rw [← h.len]; exact hi) (by rw [← h.len]; exact hj) (by unfold cl; rw [getD_lt hi, getD_lt hj]; exact e) q
    omega
  have : uq c = c := uqA_of_nodup (u := []) (by simpa using nd)
  rw [this, h.len]
def ctApart : Ctr := fun ds Q _ => ∃ (wide : Nat) (t : Form), ds = [dF t] ∧ Wf wide t ∧ Small wide t ∧ t.length < 4000 ∧ Apart wide t ∧ Q (false, .bl true)
def eN (b : Bool) : Nat := if b = true then 1 else 0
theorem LJ.start {wide : Nat} {f : Form} : LJ wide f (f.map fun s => eN s.1) where
  len := by rw [List.length_map]
  ends := fun i j hi hj h => by
    unfold cl at h
    rw [getD_lt (by simpa using hi), getD_lt (by simpa using hj)] at h
    rw [st_get hi, st_get hj]
    simp only [List.getElem_map] at h
    cases h1 : f[i].1 <;> cases h2 : f[j].1 <;> rw [h1, h2] at h <;> first | rfl | cases h
  like := fun i j hi hj h => by
    have := h.ends
    rw [st_get hi, st_get hj] at this
    unfold cl
    rw [getD_lt (by simpa using hi), getD_lt (by simpa using hj)]
    simp only [List.getElem_map, this]
end Vi
set_option Elab.async false
set_option linter.all false
set_option maxRecDepth 100000
/-! FmG: the law of least forms: contracts, bodies (3). -/
namespace Vi
open PySem
local macro_rules | `(tactic| trivial) => `(tactic| simp only [w_var, w_non, w_bl, w_int, w_str, w_tup, w_lst, w_bin, w_cmp, w_chain, w_neg, w_notv, w_andv, w_orv, w_ife, w_idx, w_slc, w_call, w_fn1, w_fn2, w_isi, w_isiT, w_dnew, w_dnew1, w_nil, w_cons, w_onone, w_osome, w_val, w_not, w_and, w_or, w_tnone, w_tone, w_seqO, w_rng1, w_rng2, w_vals,
  c_set, c_setT, c_setIx, c_app, c_ex, c_retV, c_retN, c_ite, c_brk, c_cont, c_pass, cs_nil', b_var, b_non, b_bl, b_int, b_str, b_tup, b_lst, b_bin, b_cmp, b_chain, b_neg, b_notv, b_andv, b_orv, b_ife, b_idx, b_slc, b_call, b_fn1, b_fn2, b_isi, b_isiT, b_lc, b_dc, b_dnew, b_dnew1,
  r_non, r_bl, r_int, r_str, r_tup, r_lst, r_bin, r_cmp, r_chain, r_neg, r_notv, r_andv, r_orv, r_ife, r_idx, r_slc, r_call, r_fn1, r_fn2, r_isi, r_isiT, r_dnew, r_dnew1,
  List.getElem?_cons_zero, List.getElem?_cons_succ, List.set_cons_zero, List.set_cons_succ, frzL, frz1, itFz, wipeE, Tg.slots, bindT, bindTs,
  o_addI, o_addT, o_addL, o_sub, o_mulI, o_mulL, o_fdiv, o_mod, o_pow, o_lt, o_le, o_gt, o_ge, o_is, o_isn, o_mem, o_nmem, o_eqI, o_neI, o_ixL, o_ixT, o_ixD, o_ixDt, o_ixDb, o_slcL, o_slcT, o_lenL, o_lenT, o_lenD, o_intI, o_intB, o_tupL, o_tupT, o_lstL, o_lstT, o_maxL, o_maxT, o_abs, o_max2, o_min2, o_tN, o_tB, o_tI, o_tL, o_tT,
  Option.some.injEq, Bool.false_eq_true, if_true, if_false, ite_true, ite_false, Bool.not_true, Bool.not_false, List.length_cons, List.length_nil])
theorem Keys.get_in {β : Type} [DecidableEq β] {e : β → D} {ms l : List β} {vs : List D} {x : β} (hx : x ∈ ms) (k : Keys e ms) (h : ∀ y ∈ l, y ∈ ms) (hl : vs.length = l.length) (q : x ∈ l) : ∃ y, dget (l.map e) vs (e x) = some y := by
  have := idx_lt q
  exact ⟨vs[l.idxOf x], by rw [k.get hx h hl, List.getElem?_eq_getElem (by omega)]⟩
theorem Keys.get_out {β : Type} [DecidableEq β] {e : β → D} {ms l : List β} {vs : List D} {x : β} (hx : x ∈ ms) (k : Keys e ms) (h : ∀ y ∈ l, y ∈ ms) (q : x ∉ l) : dget (l.map e) vs (e x) = none := dget_none (k.new hx h q)
theorem marks_take {f : Form} {c : List Nat} {k : Nat} (hk : k < f.length) : (marks f c).take (k + 1) = (marks f c).take k ++ [(cl c k, (st f k).2.map (cl c))] := by
  rw [List.take_succ_eq_append_getElem (by rw [mk_len]; exact hk), mk_get hk]
/-- the number in the places so far is the number in all -/
theorem idx_pre {α : Type} [DecidableEq α] {a b : List α} {x : α} (h : x ∈ a) : (uq (a ++ b)).idxOf x = (uq a).idxOf x := by
  obtain ⟨r, hr⟩ := uq_pre a b
  rw [hr, List.idxOf_append, if_pos (mem_uq.mpr h)]
theorem num_take {α : Type} [DecidableEq α] {ms : List α} {k : Nat} {m : α} (h : ms[k]? = some m) : (num ms).take (k + 1) = (num ms).take k ++ [(uq (ms.take (k + 1))).idxOf m] := by
  have hk := (List.getElem?_eq_some_iff.mp h).1
  rw [List.take_succ_eq_append_getElem (by rw [num_len]; exact hk), num_get hk, (List.getElem?_eq_some_iff.mp h).2]
  have hm : m ∈ ms.take (k + 1) := by rw [take_snoc h]; simp
  have := idx_pre (b := ms.drop (k + 1)) hm
  rw [List.take_append_drop] at this
  rw [this]
theorem split_ge {f : Form} {c : List Nat} (hl : c.length = f.length) : (uq c).length ≤ (uq (marks f c)).length := by
  have := uq_nodup.length_le_of_subset (l₁ := uq c) (l₂ := (uq (marks f c)).map (·.1)) fun x hx => by
    obtain ⟨i, hi, rfl⟩ := mem_cl (mem_uq.mp hx)
    rw [hl] at hi
    refine List.mem_map.mpr ⟨(marks f c)[i]'(by rw [mk_len]; exact hi), mem_uq.mpr (List.getElem_mem _), ?_⟩
    rw [mk_get hi]
  rwa [List.length_map] at this
theorem b_apart {G : Str → Option (Nat × Ctr)} : Body G 10 c_law_apart ctApart := by
  rintro ds Q E ⟨wide, t, rfl, F, S, hn, A, hQ⟩
  have hp := F.pos
  unfold c_law_apart
  rw [startE_1]
  show wCs _ _ _ [some (false, dF t), none, none, none, none, none, none, none, none, none] _
  rw [cs_cons']; trivial
  refine w_lcI (t.map dS) ((t.map fun s => eN s.1).map dN) (fun Q' h => ?_) (by simp) (by simp [size_eq]; omega) (fun i x r hx hr => ?_) ?_
  · trivial
    exact ⟨_, rfl, h⟩
  · rw [List.getElem?_map, Option.map_eq_some_iff] at hx
    obtain ⟨m, hm, rfl⟩ := hx
    rw [List.getElem?_map, List.getElem?_map, hm] at hr; cases hr
    trivial
    intro P hP
    rw [i_S0]
    trivial
    have e : (if m.1 = true then (1 : Int) else 0) = ((eN m.1 : Nat) : Int) := by unfold eN; split <;> rfl
    rw [e]
    exact hP _
  · have J0 : LJ wide t (t.map fun s => eN s.1) := LJ.start
    generalize (t.map fun s => eN s.1) = c at J0
    trivial
    rw [cs_cons']; trivial
    rw [cs_cons', c_for]; trivial
    refine ⟨by omega, by omega, fun i env => ∃ (c : List Nat) (z2 z4 z5 z6 z7 z8 z9 : SV) (many : Nat), LJ wide t c ∧ i ≤ many ∧ many ≤ t.length ∧ (i = 0 ∧ many = 0 ∨ many = (uq c).length) ∧ env = [some (false, dF t), some (true, .lst (c.map dN)), z2, some (false, dN many), z4, z5, z6, z7, z8, none], ⟨c, _, _, _, _, _, _, none, 0, J0, by omega, by omega, .inl ⟨rfl, rfl⟩, rfl⟩, ?_, ?_⟩
    · rintro i x env hx ⟨c, z2, z4, z5, z6, z7, z8, z9, many, J, h1, h2, h3, rfl⟩
      have hcl := J.len
      trivial
      rw [cs_cons']; trivial
      rw [cs_cons']; trivial
      refine ⟨by rw [size_eq]; omega, ?_⟩
      rw [cs_cons', c_for]; trivial
      rw [o_lenF]; simp only []
      rw [int_range]
      refine ⟨by omega, by omega, fun k env => ∃ (z7 z8 z9 : SV), env = [some (false, dF t), some (true, .lst (c.map dN)), z2, some (false, dN many), some (false, x), some (true, .dct ((uq ((marks t c).take k)).map dM) ((List.range (uq ((marks t c).take k)).length).map dN)), some (true, .lst (((split t c).take k).map dN)), z7, z8, none], ⟨_, _, none, rfl⟩, ?_, ?_⟩
      · rintro k y env hy ⟨z7, z8, z9, rfl⟩
        have hk : k < t.length := by have := (List.getElem?_eq_some_iff.mp hy).1; simpa using this
        rw [List.getElem?_map, List.getElem?_range hk] at hy; cases hy
        have mget : (marks t c)[k]? = some (cl c k, (st t k).2.map (cl c)) := by rw [List.getElem?_eq_getElem (by rw [mk_len]; exact hk), mk_get hk]
        have hs := (congrArg uq (take_snoc mget)).trans (uq_snoc _ _)
        have hsp := num_take mget
        have kk := keys_dM (marks t c)
        have mm : (cl c k, (st t k).2.map (cl c)) ∈ marks t c := List.mem_of_getElem? mget
        have hsub : ∀ y ∈ uq ((marks t c).take k), y ∈ marks t c := fun y hy => List.mem_of_mem_take (mem_uq.mp hy)
        have hlen : (uq ((marks t c).take k)).length ≤ t.length := Nat.le_trans (uq_len _) (by rw [List.length_take, mk_len]; omega)
        have hlen2 : ((split t c).take k).length ≤ t.length := by rw [List.length_take]; unfold split; rw [num_len, mk_len]; omega
        trivial
        rw [cs_cons']; trivial
        refine ⟨_, a_N (by omega), ?_⟩
        refine moves_lc (k := k) (g := cl c) F S hk rfl rfl (fun m hm P hP => ?_) ?_
        · have : m < c.length := by rw [hcl]; exact F.lt _ (st_mem hk) m hm
          trivial
          exact ⟨_, a_N this, hP _⟩
        · trivial
          refine ⟨by rw [size_eq]; omega, ?_⟩
          have e0 : D.tup [dN (cl c k), .tup (((st t k).2.map (cl c)).map dN)] = dM (cl c k, (st t k).2.map (cl c)) := rfl
          rw [e0]
          generalize (cl c k, (st t k).2.map (cl c)) = mk at *
          rw [cs_cons']; trivial
          refine ⟨kk.key hsub mm, ?_⟩
          have fin : ∀ (e1 : VE) (bk ct : VE → Prop), e1 = [some (false, dF t), some (true, .lst (c.map dN)), z2, some (false, dN many), some (false, x), some (true, .dct ((uq ((marks t c).take (k + 1))).map dM) ((List.range (uq ((marks t c).take (k + 1))).length).map dN)), some (true, .lst (((split t c).take k).map dN)), some (false, dN k), some (false, dM mk), none] → wCs G (fun x _ => E x) (.cons (.app 6 (.idx (.var 5) (.var 8))) .nil) e1 { nx := fun env => ∃ (z7 z8 z9 : SV), env = [some (false, dF t), some (true, .lst (c.map dN)), z2, some (false, dN many), some (false, x), some (true, .dct ((uq ((marks t c).take (k + 1))).map dM) ((List.range (uq ((marks t c).take (k + 1))).length).map dN)), some (true, .lst (((split t c).take (k + 1)).map dN)), z7, z8, none], rt := Q, bk := bk, ct := ct } := by
            rintro e1 bk ct rfl
            rw [cs_cons']; trivial
            have hm' : mk ∈ uq ((marks t c).take (k + 1)) := mem_uq.mpr (by rw [take_snoc mget]; simp)
            have hsub' : ∀ y ∈ uq ((marks t c).take (k + 1)), y ∈ marks t c := fun y hy => List.mem_of_mem_take (mem_uq.mp hy)
            rw [o_ixDx]
            have hg := kk.get mm hsub' (vs := (List.range (uq ((marks t c).take (k + 1))).length).map dN) (by simp)
            rw [List.getElem?_map, List.getElem?_range (idx_lt hm')] at hg
            refine ⟨kk.key hsub' mm, _, hg, True.intro, by simp [size_eq]; omega, some (false, dN k), some (false, dM mk), none, ?_⟩
            have hsp' : (split t c).take (k + 1) = _ := hsp
            rw [hsp', List.map_append]
            rfl
          by_cases q : mk ∈ uq ((marks t c).take k)
          · have hs2 : uq ((marks t c).take (k + 1)) = uq ((marks t c).take k) := by rw [hs, if_pos q]
            obtain ⟨y, hy⟩ := kk.get_in mm hsub (vs := (List.range (uq ((marks t c).take k)).length).map dN) (by simp) q
            rw [hy]
            simp only [Option.isSome_some, Bool.not_true, Bool.false_eq_true, if_false, cs_nil']
            refine fin _ _ _ ?_
            rw [hs2]
          · have hs2 : uq ((marks t c).take (k + 1)) = uq ((marks t c).take k) ++ [mk] := by rw [hs, if_neg q]
            rw [kk.get_out mm hsub q]
            simp only [Option.isSome_none, Bool.not_false, if_true]
            rw [cs_cons']; trivial
            refine ⟨⟨_, rfl⟩, kk.key hsub mm, by simp [size_eq]; omega, ?_⟩
            rw [dputK_new (kk.new mm hsub q), dputV_new (by simp) (kk.new mm hsub q)]
            refine fin _ _ _ ?_
            rw [hs2]
            simp [List.range_succ, dN]
      · rintro env ⟨z7, z8, z9, rfl⟩
        have e1 : (marks t c).take t.length = marks t c := by rw [← mk_len (c := c), List.take_length]
        have e2 : (split t c).take t.length = split t c := by
          have : t.length = (split t c).length := by unfold split; rw [num_len, mk_len]
          rw [this, List.take_length]
        rw [List.length_map, List.length_range, e1, e2, cs_cons']; trivial
        have J2 := J.step F
        have hu : (uq (split t c)).length = (uq (marks t c)).length := by unfold split; rw [num_uq, List.length_range]
        have hpos : 0 < (uq (marks t c)).length := by
          rw [← hu]
          have := J2.len
          have hm : cl (split t c) 0 ∈ uq (split t c) := mem_uq.mpr (cl_mem (by omega))
          exact List.length_pos_of_mem hm
        have hle : (uq (marks t c)).length ≤ t.length := by
          have := uq_len (marks t c); rw [mk_len] at this; exact this
        rw [cs_cons']; trivial
        rw [List.length_map]
        by_cases q : (uq (marks t c)).length = many
        · rw [if_pos (by simp; omega), cs_cons']; trivial
          have hm : many = (uq c).length := h3.elim (fun e => by omega) id
          have : (uq c).length = t.length := J.all F A (by omega)
          rw [cs_cons']; trivial
          rw [o_lenF]
          trivial
          have e : decide ((many : Int) = (t.length : Int)) = true := by simp; omega
          rw [e]
          exact hQ
        · rw [if_neg (by simp; omega), cs_cons']; trivial
          have hge := split_ge (f := t) hcl
          exact ⟨split t c, z2, some (false, x), _, _, z7, z8, none, (uq (marks t c)).length, J2, by omega, hle, .inr hu.symm, by rw [List.length_map]⟩
    · rintro env ⟨c, z2, z4, z5, z6, z7, z8, z9, many, J, h1, h2, h3, rfl⟩
      simp at h1
      omega
end Vi
set_option Elab.async false
set_option linter.all false
set_option maxRecDepth 100000
/-! FmH: the law of least forms: contracts, bodies (4). -/
namespace Vi
open PySem
local macro_rules | `(tactic| trivial) => `(tactic| simp only [w_var, w_non, w_bl, w_int, w_str, w_tup, w_lst, w_bin, w_cmp, w_chain, w_neg, w_notv, w_andv, w_orv, w_ife, w_idx, w_slc, w_call, w_fn1, w_fn2, w_isi, w_isiT, w_dnew, w_dnew1, w_nil, w_cons, w_onone, w_osome, w_val, w_not, w_and, w_or, w_tnone, w_tone, w_seqO, w_rng1, w_rng2, w_vals,
  c_set, c_setT, c_setIx, c_app, c_ex, c_retV, c_retN, c_ite, c_brk, c_cont, c_pass, cs_nil', b_var, b_non, b_bl, b_int, b_str, b_tup, b_lst, b_bin, b_cmp, b_chain, b_neg, b_notv, b_andv, b_orv, b_ife, b_idx, b_slc, b_call, b_fn1, b_fn2, b_isi, b_isiT, b_lc, b_dc, b_dnew, b_dnew1,
  r_non, r_bl, r_int, r_str, r_tup, r_lst, r_bin, r_cmp, r_chain, r_neg, r_notv, r_andv, r_orv, r_ife, r_idx, r_slc, r_call, r_fn1, r_fn2, r_isi, r_isiT, r_dnew, r_dnew1,
  List.getElem?_cons_zero, List.getElem?_cons_succ, List.set_cons_zero, List.set_cons_succ, frzL, frz1, itFz, wipeE, Tg.slots, bindT, bindTs,
  o_addI, o_addT, o_addL, o_sub, o_mulI, o_mulL, o_fdiv, o_mod, o_pow, o_lt, o_le, o_gt, o_ge, o_is, o_isn, o_mem, o_nmem, o_eqI, o_neI, o_ixL, o_ixT, o_ixD, o_ixDt, o_ixDb, o_slcL, o_slcT, o_lenL, o_lenT, o_lenD, o_intI, o_intB, o_tupL, o_tupT, o_lstL, o_lstT, o_maxL, o_maxT, o_abs, o_max2, o_min2, o_tN, o_tB, o_tI, o_tL, o_tT,
  Option.some.injEq, Bool.false_eq_true, if_true, if_false, ite_true, ite_false, Bool.not_true, Bool.not_false, List.length_cons, List.length_nil])
theorem r_lc' {G : Str → Option (Nat × Ctr)} {E : XD → VE → Prop} {env : VE} {K : KE} {fz : List Nat} {a : Ex} {tg : Tg} {it : Itx} {cond : Txs} : wC G E (.ret (.lc fz a tg it cond)) env K = wE G E (.lc fz a tg it cond) env fun r _ => K.rt r := rfl
def dSL (s : Bool × List Nat) : D := .lst [.bl s.1, .lst (s.2.map dN)]
def dSM (s : Bool × List Nat) : D := .tup [.bl s.1, .lst (s.2.map dN)]
def dST (s : Bool × List Nat) : D := .lst [.bl s.1, .tup (s.2.map dN)]
def dL (f : Form) : D := .lst (f.map dSL)
def dMa (f : Form) : D := .lst (f.map dSM)
section
variable {f : Form} {s : Nat} {p : Bool × List Nat} {W : D → Prop} {Q : R → Prop}
theorem i_L (h : s < f.length) : wIdx (dL f) (.int (s : Int)) W ↔ W (dSL (st f s)) := by
  have : L2.atI (f.map dSL) (s : Int) = some (dSL (st f s)) := by rw [atI_nat (by simpa using h), st_get h]; simp
  show (∃ d, L2.atI (f.map dSL) (s : Int) = some d ∧ W d) ↔ _
  rw [this]; simp
theorem i_M (h : s < f.length) : wIdx (dMa f) (.int (s : Int)) W ↔ W (dSM (st f s)) := by
  have : L2.atI (f.map dSM) (s : Int) = some (dSM (st f s)) := by rw [atI_nat (by simpa using h), st_get h]; simp
  show (∃ d, L2.atI (f.map dSM) (s : Int) = some d ∧ W d) ↔ _
  rw [this]; simp
theorem i_L0 : wIdx (dSL p) (.int 0) W ↔ W (.bl p.1) := by
  show (∃ d, L2.atI [D.bl p.1, .lst (p.2.map dN)] 0 = some d ∧ W d) ↔ _
  have : L2.atI [D.bl p.1, .lst (p.2.map dN)] 0 = some (.bl p.1) := rfl
  rw [this]; simp
theorem i_L1 : wIdx (dSL p) (.int 1) W ↔ W (.lst (p.2.map dN)) := by
  show (∃ d, L2.atI [D.bl p.1, .lst (p.2.map dN)] 1 = some d ∧ W d) ↔ _
  have : L2.atI [D.bl p.1, .lst (p.2.map dN)] 1 = some (.lst (p.2.map dN)) := rfl
  rw [this]; simp
theorem i_M0 : wIdx (dSM p) (.int 0) W ↔ W (.bl p.1) := by
  show (∃ d, L2.atI [D.bl p.1, .lst (p.2.map dN)] 0 = some d ∧ W d) ↔ _
  have : L2.atI [D.bl p.1, .lst (p.2.map dN)] 0 = some (.bl p.1) := rfl
  rw [this]; simp
theorem i_M1 : wIdx (dSM p) (.int 1) W ↔ W (.lst (p.2.map dN)) := by
  show (∃ d, L2.atI [D.bl p.1, .lst (p.2.map dN)] 1 = some d ∧ W d) ↔ _
  have : L2.atI [D.bl p.1, .lst (p.2.map dN)] 1 = some (.lst (p.2.map dN)) := rfl
  rw [this]; simp
theorem o_lenM : wFn1 .len (dMa f) Q = Q (false, .int (f.length : Int)) := by
  show Q (false, .int ((f.map dSM).length : Int)) = _
  rw [List.length_map]
theorem o_neB {a b : Bool} {P : Bool → Prop} : wCmp .ne (.bl a) (.bl b) P ↔ P (!(a == b)) := by
  show (∃ c, some (a == b) = some c ∧ P (!c)) ↔ _
  simp
end
/-! ### machine -/
def ctMachine : Ctr := fun ds Q _ => ∃ (wide : Nat) (f : Form), ds = [dL f] ∧ Wf wide f ∧ Small wide (withStart f) ∧ 1 ≤ wide ∧ Q (true, dMa (withStart f))
theorem inc_lc {G : Str → Option (Nat × Ctr)} {E : XD → VE → Prop} {Q : R → VE → Prop} {env : VE} {l : List Nat} {sm : Nat} {it : Itx} (hl : l.length < sizeLine)
    (hit : ∀ Q' : List D → VE → Prop, Q' (l.map dN) env → wI G E it env Q') (hm : sm < env.length) (hQ : Q (true, .lst ((l.map (· + 1)).map dN)) env) : wE G E (.lc [] (.bin .add (.var sm) (.int 1)) (.nm sm) it .none) env Q := by
  refine w_lcI (l.map dN) ((l.map (· + 1)).map dN) hit (by simp) (by rw [List.length_map]; omega) (fun i x r hx hr => ?_) hQ
  rw [List.getElem?_map, Option.map_eq_some_iff] at hx
  obtain ⟨n, hn, rfl⟩ := hx
  rw [List.getElem?_map, List.getElem?_map, hn] at hr; cases hr
  trivial
  intro P hP
  rw [List.getElem?_set_self (by rw [List.length_set]; exact hm)]
  trivial
  exact hP _
theorem b_machine {G : Str → Option (Nat × Ctr)} : Body G 4 c_law_machine ctMachine := by
  rintro ds Q E ⟨wide, f, rfl, F, S, hw, hQ⟩
  have hn := S.n
  have hw2 := S.w
  rw [ws_len] at hn
  have hp := F.pos
  have hl := F.len hp
  unfold c_law_machine
  rw [startE_1]
  show wCs _ _ _ [some (false, dL f), none, none, none] _
  have z0 : ((0 : Nat) : Int) = 0 := rfl
  rw [cs_cons']; trivial
  rw [← z0, i_L hp, z0, i_L0]
  refine ⟨by rw [size_eq]; omega, ?_⟩
  refine inc_lc (l := (st f 0).2.drop 1) (by rw [List.length_drop, size_eq]; omega) (fun Q' h => ?_) (by simp) ?_
  · trivial
    rw [← z0, i_L hp, i_L1]
    trivial
    refine ⟨_, rfl, ?_⟩
    have hcut : cutD ((st f 0).2.map dN) (some 1) none = ((st f 0).2.drop 1).map dN := by
      unfold cutD
      have hsi : HT.sIx ((st f 0).2.map dN).length 0 (some 1) = 1 := by
        rw [List.length_map, hl]
        exact (HT.sIx_nat wide 0 1).trans (by omega)
      rw [hsi, HT.sIx_none, List.map_drop]
      apply List.take_of_length_le
      simp
    rw [hcut]
    exact h
  · trivial
    refine ⟨by simp [size_eq]; omega, by rw [size_eq]; omega, by rw [size_eq]; omega, ?_⟩
    rw [cs_cons', c_for]; trivial
    refine ⟨f.map dSL, rfl, fun i env => ∃ z, env = [some (false, dL f), some (true, .lst ((((st f 0).1, 0 :: ((st f 0).2.drop 1).map (· + 1)) :: ((f.take i).map fun s => (s.1, s.2.map (· + 1)))).map dSM)), none, z], ⟨none, rfl⟩, ?_, ?_⟩
    · rintro i x env hx ⟨z, rfl⟩
      rw [List.getElem?_map, Option.map_eq_some_iff] at hx
      obtain ⟨s, hs, rfl⟩ := hx
      have hsw := F.ww s (List.mem_of_getElem? hs)
      have hi := (List.getElem?_eq_some_iff.mp hs).1
      trivial
      rw [cs_cons']; trivial
      rw [i_L0]
      refine inc_lc (l := s.2) (by rw [size_eq]; omega) (fun Q' h => ?_) (by simp) ?_
      · trivial
        rw [i_L1]
        exact ⟨_, rfl, h⟩
      · trivial
        refine ⟨by rw [size_eq]; omega, True.intro, by simp [size_eq]; omega, some (false, dSL s), ?_⟩
        rw [take_snoc hs]
        simp [dSM]
    · rintro env ⟨z, rfl⟩
      rw [List.length_map, List.take_length, cs_cons']; trivial
      exact hQ
/-! ### shaped -/
def shp (n : Nat) (f : Form) : D := if n = 0 then dF f else if n = 1 then dL f else if n = 2 then .tup (f.map dST) else dMa f
def ctShaped : Ctr := fun ds Q _ => ∃ (wide : Nat) (f : Form) (n : Nat), ds = [dL f, dN n] ∧ Wf wide f ∧ Small wide f ∧ n < 4 ∧ ∀ o, Q (o, shp n f)
theorem b_shaped {G : Str → Option (Nat × Ctr)} : Body G 3 c_law_shaped ctShaped := by
  rintro ds Q E ⟨wide, f, n, rfl, F, S, hn4, hQ⟩
  have hn := S.n
  have hw2 := S.w
  unfold c_law_shaped
  rw [startE_2]
  show wCs _ _ _ [some (false, dL f), some (false, dN n), none] _
  have it : ∀ Q' : List D → VE → Prop, Q' (f.map dSL) [some (false, dL f), some (false, dN n), none] → wI G (fun x _ => E x) (.seq (.var 0)) [some (false, dL f), some (false, dN n), none] Q' := fun Q' h => by
    trivial
    exact ⟨_, rfl, h⟩
  rw [cs_cons']; trivial
  by_cases h0 : n = 0
  · subst h0
    rw [if_pos (by simp), cs_cons']; trivial
    refine w_lcI (f.map dSL) (f.map dS) it (by simp) (by simp [size_eq]; omega) (fun i x r hx hr => ?_) ?_
    · rw [List.getElem?_map, Option.map_eq_some_iff] at hx
      obtain ⟨s, hs, rfl⟩ := hx
      rw [List.getElem?_map, hs] at hr; cases hr
      trivial
      intro P hP
      rw [i_L0, i_L1]
      trivial
      exact ⟨by rw [size_eq]; omega, hP _⟩
    · trivial
      exact hQ _
  · rw [if_neg (by simp; omega), cs_cons']; trivial
    by_cases h1 : n = 1
    · subst h1
      rw [if_pos (by simp), cs_cons', r_lc']
      refine w_lcI (f.map dSL) (f.map dSL) it (by simp) (by simp [size_eq]; omega) (fun i x r hx hr => ?_) ?_
      · rw [List.getElem?_map, Option.map_eq_some_iff] at hx
        obtain ⟨s, hs, rfl⟩ := hx
        rw [List.getElem?_map, hs] at hr; cases hr
        trivial
        intro P hP
        rw [i_L0, i_L1]
        trivial
        exact ⟨by rw [size_eq]; omega, hP _⟩
      · exact hQ _
    · rw [if_neg (by simp; omega), cs_cons']; trivial
      by_cases h2 : n = 2
      · subst h2
        rw [if_pos (by simp), cs_cons']; trivial
        refine w_lcI (f.map dSL) (f.map dST) it (by simp) (by simp [size_eq]; omega) (fun i x r hx hr => ?_) ?_
        · rw [List.getElem?_map, Option.map_eq_some_iff] at hx
          obtain ⟨s, hs, rfl⟩ := hx
          rw [List.getElem?_map, hs] at hr; cases hr
          trivial
          intro P hP
          rw [i_L0, i_L1]
          trivial
          exact ⟨by rw [size_eq]; omega, hP _⟩
        · trivial
          exact hQ _
      · rw [if_neg (by simp; omega), cs_cons', r_lc']
        have h3 : n = 3 := by omega
        subst h3
        refine w_lcI (f.map dSL) (f.map dSM) it (by simp) (by simp [size_eq]; omega) (fun i x r hx hr => ?_) ?_
        · rw [List.getElem?_map, Option.map_eq_some_iff] at hx
          obtain ⟨s, hs, rfl⟩ := hx
          rw [List.getElem?_map, hs] at hr; cases hr
          trivial
          intro P hP
          rw [i_L0, i_L1]
          trivial
          exact ⟨by rw [size_eq]; omega, hP _⟩
        · exact hQ _
end Vi
set_option Elab.async false
set_option linter.all false
set_option maxRecDepth 100000
/-! FmI: the law of least forms: contracts, bodies (5). -/
namespace Vi
open PySem
local macro_rules | `(tactic| trivial) => `(tactic| simp only [w_var, w_non, w_bl, w_int, w_str, w_tup, w_lst, w_bin, w_cmp, w_chain, w_neg, w_notv, w_andv, w_orv, w_ife, w_idx, w_slc, w_call, w_fn1, w_fn2, w_isi, w_isiT, w_dnew, w_dnew1, w_nil, w_cons, w_onone, w_osome, w_val, w_not, w_and, w_or, w_tnone, w_tone, w_seqO, w_rng1, w_rng2, w_vals,
  c_set, c_setT, c_setIx, c_app, c_ex, c_retV, c_retN, c_ite, c_brk, c_cont, c_pass, cs_nil', b_var, b_non, b_bl, b_int, b_str, b_tup, b_lst, b_bin, b_cmp, b_chain, b_neg, b_notv, b_andv, b_orv, b_ife, b_idx, b_slc, b_call, b_fn1, b_fn2, b_isi, b_isiT, b_lc, b_dc, b_dnew, b_dnew1,
  r_non, r_bl, r_int, r_str, r_tup, r_lst, r_bin, r_cmp, r_chain, r_neg, r_notv, r_andv, r_orv, r_ife, r_idx, r_slc, r_call, r_fn1, r_fn2, r_isi, r_isiT, r_dnew, r_dnew1,
  List.getElem?_cons_zero, List.getElem?_cons_succ, List.set_cons_zero, List.set_cons_succ, frzL, frz1, itFz, wipeE, Tg.slots, bindT, bindTs,
  o_addI, o_addT, o_addL, o_sub, o_mulI, o_mulL, o_fdiv, o_mod, o_pow, o_lt, o_le, o_gt, o_ge, o_is, o_isn, o_mem, o_nmem, o_eqI, o_neI, o_ixL, o_ixT, o_ixD, o_ixDt, o_ixDb, o_slcL, o_slcT, o_lenL, o_lenT, o_lenD, o_intI, o_intB, o_tupL, o_tupT, o_lstL, o_lstT, o_maxL, o_maxT, o_abs, o_max2, o_min2, o_tN, o_tB, o_tI, o_tL, o_tT,
  Option.some.injEq, Bool.false_eq_true, if_true, if_false, ite_true, ite_false, Bool.not_true, Bool.not_false, List.length_cons, List.length_nil])
def ctWalked : Ctr := fun ds Q _ => ∃ (wide : Nat) (M t : Form), ds = [dF t, dMa M] ∧ Wf wide M ∧ Small wide M ∧ LF wide M t ∧ Q (false, .bl true)
/-- the partners so far -/
structure Part (wide : Nat) (M t : Form) (p : List Int) (w : List Nat) : Prop where
  len : p.length = M.length
  ok : ∀ s, s < M.length → p[s]? = some (-1) ∨ ∃ u, Wd wide u ∧ run M 0 u = s ∧ p[s]? = some ((run t 0 u : Nat) : Int)
  wok : ∀ s ∈ w, s < M.length ∧ p[s]? ≠ some (-1)
  nd : w.Nodup
theorem Part.wlen {wide : Nat} {M t : Form} {p : List Int} {w : List Nat} (h : Part wide M t p w) : w.length ≤ M.length := by
  have := h.nd.length_le_of_subset (l₂ := List.range M.length) fun x hx => List.mem_range.mpr (h.wok x hx).1
  rwa [List.length_range] at this
theorem Part.at {wide : Nat} {M t : Form} {p : List Int} {w : List Nat} (h : Part wide M t p w) {s : Nat} (hs : s ∈ w) : s < M.length ∧ ∃ u, Wd wide u ∧ run M 0 u = s ∧ p[s]? = some ((run t 0 u : Nat) : Int) := by
  obtain ⟨h1, h2⟩ := h.wok s hs
  refine ⟨h1, (h.ok s h1).elim (fun e => absurd e h2) id⟩
theorem Part.put {wide : Nat} {M t : Form} {p : List Int} {w : List Nat} (h : Part wide M t p w) {s d : Nat} (hs : s < M.length) (hp : p[s]? = some (-1)) {u : List Nat} (q : Wd wide u) (e1 : run M 0 u = s) (e2 : run t 0 u = d) : Part wide M t (p.set s (d : Int)) (w ++ [s]) where
  len := by rw [List.length_set]; exact h.len
  ok := fun x hx => by
    by_cases e : s = x
    · subst e
      refine .inr ⟨u, q, e1, ?_⟩
      rw [List.getElem?_set_self (by rw [h.len]; exact hs), e2]
    · rw [List.getElem?_set_ne e]; exact h.ok x hx
  wok := fun x hx => by
    rcases List.mem_append.mp hx with h1 | h1
    · obtain ⟨a, b⟩ := h.wok x h1
      refine ⟨a, ?_⟩
      have e : s ≠ x := fun z => by subst z; exact b hp
      rw [List.getElem?_set_ne e]; exact b
    · rw [List.mem_singleton] at h1
      subst h1
      refine ⟨hs, ?_⟩
      rw [List.getElem?_set_self (by rw [h.len]; exact hs)]
      intro z
      have := Option.some.inj z
      omega
  nd := by
    rw [List.nodup_append]
    refine ⟨h.nd, by simp, fun a ha b hb => ?_⟩
    rw [List.mem_singleton] at hb
    subst hb
    exact fun z => by subst z; exact (h.wok a ha).2 hp
theorem Part.keep {wide : Nat} {M t : Form} {p : List Int} {w : List Nat} (h : Part wide M t p w) {s d : Nat} (hs : s < M.length) (hp : p[s]? = some (-1)) {x : Nat} {v : Int} (e : p[x]? = some v) (hv : v ≠ -1) : (p.set s (d : Int))[x]? = some v := by
  have : s ≠ x := fun z => by subst z; rw [hp] at e; exact hv (Option.some.inj e).symm
  rw [List.getElem?_set_ne this]; exact e
theorem b_walked {G : Str → Option (Nat × Ctr)} : Body G 10 c_law_walked ctWalked := by
  rintro ds Q E ⟨wide, M, t, rfl, F, S, L, hQ⟩
  have hn := S.n
  have hw := S.w
  have hp := F.pos
  have T := L.wf
  unfold c_law_walked
  rw [startE_2]
  show wCs _ _ _ [some (false, dF t), some (false, dMa M), none, none, none, none, none, none, none, none] _
  rw [cs_cons']; trivial
  refine ⟨by rw [size_eq]; omega, ?_⟩
  refine w_lcI ((List.range (M.length - 1)).map dN) ((List.replicate (M.length - 1) (-1 : Int)).map D.int) (fun Q' h => ?_) (by simp) (by simp [size_eq]; omega) (fun i x r hx hr => ?_) ?_
  · trivial
    rw [o_lenM]
    trivial
    have e : ((M.length : Int) - 1).toNat = M.length - 1 := by omega
    rw [e]
    exact ⟨by omega, by omega, h⟩
  · rw [List.getElem?_map, Option.map_eq_some_iff] at hr
    obtain ⟨v, hv, rfl⟩ := hr
    have := (List.mem_replicate.mp (List.mem_of_getElem? hv)).2
    subst this
    trivial
    intro P hP
    exact hP _
  · trivial
    refine ⟨by simp [size_eq]; omega, ?_⟩
    have P0 : Part wide M t (0 :: List.replicate (M.length - 1) (-1 : Int)) [0] := by
      refine ⟨by simp; omega, fun s hs => ?_, fun s hs => ?_, by simp⟩
      · cases s with
        | zero => exact .inr ⟨[], Wd.nil, rfl, rfl⟩
        | succ s => exact .inl (by rw [List.getElem?_cons_succ, List.getElem?_replicate, if_pos (by omega)])
      · rw [List.mem_singleton] at hs
        subst hs
        exact ⟨hp, by simp⟩
    rw [cs_cons']; trivial
    refine ⟨by rw [size_eq]; omega, ?_⟩
    rw [cs_cons', c_for]; trivial
    rw [o_lenM]; simp only []
    rw [int_range]
    refine ⟨by omega, by omega, fun i env => ∃ (p : List Int) (w : List Nat) (z5 z6 z7 z8 z9 : SV), Part wide M t p w ∧ env = [some (false, dF t), some (false, dMa M), some (true, .lst (p.map D.int)), none, some (true, .lst (w.map dN)), z5, z6, z7, z8, z9], ⟨_, [0], _, _, _, _, _, P0, rfl⟩, ?_, ?_⟩
    · rintro i x env hx ⟨p, w, z5, z6, z7, z8, z9, P1, rfl⟩
      have hi : i < M.length := by have := (List.getElem?_eq_some_iff.mp hx).1; simpa using this
      rw [List.getElem?_map, List.getElem?_range hi] at hx; cases hx
      trivial
      rw [cs_cons']; trivial
      by_cases q : w.length ≤ i
      · rw [if_pos (by simpa using q), cs_cons']; trivial
        rw [cs_cons']; trivial
        exact hQ
      · rw [if_neg (by simpa using q), cs_cons']; trivial
        have hiw : i < w.length := by omega
        refine ⟨dN w[i], atI_get (by simp [hiw]), ?_⟩
        obtain ⟨m1, u, qu, e1, e2⟩ := P1.at (List.getElem_mem hiw)
        generalize w[i] = mine at *
        have tl := T.run T.pos qu
        rw [cs_cons']; trivial
        rw [i_M m1, i_M0]
        refine ⟨_, atI_get (by rw [List.getElem?_map, e2]; rfl), ?_⟩
        rw [i_F tl, i_S0, o_neB]
        have he := L.ends qu
        rw [e1] at he
        rw [he]
        have hb : (!((st M mine).1 == (st M mine).1)) = false := by simp
        rw [hb]
        trivial
        rw [cs_cons', c_for]; trivial
        rw [i_M m1, i_M1]
        trivial
        rw [List.length_map, F.len m1, int_range]
        refine ⟨by omega, by omega, fun j env => ∃ (p : List Int) (w : List Nat) (z7 z8 z9 : SV), Part wide M t p w ∧ p[mine]? = some ((run t 0 u : Nat) : Int) ∧ env = [some (false, dF t), some (false, dMa M), some (true, .lst (p.map D.int)), none, some (true, .lst (w.map dN)), some (false, dN i), some (false, dN mine), z7, z8, z9], ⟨p, w, _, _, _, P1, e2, rfl⟩, ?_, ?_⟩
        · rintro j x env hx ⟨p, w, z7, z8, z9, P1, e2, rfl⟩
          have hj : j < wide := by have := (List.getElem?_eq_some_iff.mp hx).1; simpa using this
          rw [List.getElem?_map, List.getElem?_range hj] at hx; cases hx
          have l1 : j < (st M mine).2.length := by rw [F.len m1]; exact hj
          have l2 : j < (st t (run t 0 u)).2.length := by rw [T.len tl]; exact hj
          have mlt := F.mvlt m1 hj
          have tlt := T.mvlt tl hj
          have a1 : L2.atI ((st M mine).2.map dN) (j : Int) = some (dN (mv M mine j)) := atI_get (by unfold mv; rw [getD_lt l1]; simp [l1])
          have a2 : L2.atI ((st t (run t 0 u)).2.map dN) (j : Int) = some (dN (mv t (run t 0 u) j)) := atI_get (by unfold mv; rw [getD_lt l2]; simp [l2])
          trivial
          rw [cs_cons']; trivial
          rw [i_M m1, i_M1]
          trivial
          refine ⟨_, a1, ?_⟩
          rw [cs_cons']; trivial
          refine ⟨_, atI_get (by rw [List.getElem?_map, e2]; rfl), ?_⟩
          rw [i_F tl, i_S1]
          trivial
          refine ⟨_, a2, ?_⟩
          have q2 : Wd wide (u ++ [j]) := qu.append (Wd.cons hj Wd.nil)
          have r1 : run M 0 (u ++ [j]) = mv M mine j := by rw [run_app, e1]; rfl
          have r2 : run t 0 (u ++ [j]) = mv t (run t 0 u) j := by rw [run_app]; rfl
          generalize mv M mine j = target at *
          generalize mv t (run t 0 u) j = due at *
          rw [cs_cons']; trivial
          rcases P1.ok target mlt with h | ⟨v, qv, f1, f2⟩
          · refine ⟨_, atI_get (by rw [List.getElem?_map, h]; rfl), ?_⟩
            trivial
            rw [if_pos (by decide), cs_cons']; trivial
            refine ⟨⟨_, rfl⟩, target, ?_, ?_⟩
            · rw [List.length_map]; exact ixN_nat (by rw [P1.len]; exact mlt)
            · have P2 := P1.put mlt h q2 r1 r2
              have := P2.wlen
              rw [cs_cons']; trivial
              refine ⟨True.intro, by simp at this ⊢; rw [size_eq]; omega, p.set target (due : Int), w ++ [target], some (false, dN j), some (false, dN target), some (false, dN due), P2, P1.keep mlt h e2 (by omega), ?_⟩
              rw [List.map_append, List.map_set]
              rfl
          · refine ⟨_, atI_get (by rw [List.getElem?_map, f2]; rfl), ?_⟩
            trivial
            rw [if_neg (by simp), cs_cons']; trivial
            refine ⟨_, atI_get (by rw [List.getElem?_map, f2]; rfl), ?_⟩
            have e3 : run t 0 v = due := by rw [← r2]; exact L.same qv q2 (by rw [f1, r1])
            trivial
            rw [e3, if_neg (by simp)]
            exact ⟨p, w, _, _, _, P1, e2, rfl⟩
        · rintro env ⟨p, w, z7, z8, z9, P1, e2, rfl⟩
          exact ⟨p, w, _, _, _, _, _, P1, rfl⟩
    · rintro env ⟨p, w, z5, z6, z7, z8, z9, P1, rfl⟩
      rw [cs_cons']; trivial
      exact hQ
end Vi
set_option Elab.async false
set_option linter.all false
set_option maxRecDepth 100000
/-! FmJ: the law of least forms: contracts, bodies (6). -/
namespace Vi
open PySem
local macro_rules | `(tactic| trivial) => `(tactic| simp only [w_var, w_non, w_bl, w_int, w_str, w_tup, w_lst, w_bin, w_cmp, w_chain, w_neg, w_notv, w_andv, w_orv, w_ife, w_idx, w_slc, w_call, w_fn1, w_fn2, w_isi, w_isiT, w_dnew, w_dnew1, w_nil, w_cons, w_onone, w_osome, w_val, w_not, w_and, w_or, w_tnone, w_tone, w_seqO, w_rng1, w_rng2, w_vals,
  c_set, c_setT, c_setIx, c_app, c_ex, c_retV, c_retN, c_ite, c_brk, c_cont, c_pass, cs_nil', b_var, b_non, b_bl, b_int, b_str, b_tup, b_lst, b_bin, b_cmp, b_chain, b_neg, b_notv, b_andv, b_orv, b_ife, b_idx, b_slc, b_call, b_fn1, b_fn2, b_isi, b_isiT, b_lc, b_dc, b_dnew, b_dnew1,
  r_non, r_bl, r_int, r_str, r_tup, r_lst, r_bin, r_cmp, r_chain, r_neg, r_notv, r_andv, r_orv, r_ife, r_idx, r_slc, r_call, r_fn1, r_fn2, r_isi, r_isiT, r_dnew, r_dnew1,
  List.getElem?_cons_zero, List.getElem?_cons_succ, List.set_cons_zero, List.set_cons_succ, frzL, frz1, itFz, wipeE, Tg.slots, bindT, bindTs,
  o_addI, o_addT, o_addL, o_sub, o_mulI, o_mulL, o_fdiv, o_mod, o_pow, o_lt, o_le, o_gt, o_ge, o_is, o_isn, o_mem, o_nmem, o_eqI, o_neI, o_ixL, o_ixT, o_ixD, o_ixDt, o_ixDb, o_slcL, o_slcT, o_lenL, o_lenT, o_lenD, o_intI, o_intB, o_tupL, o_tupT, o_lstL, o_lstT, o_maxL, o_maxT, o_abs, o_max2, o_min2, o_tN, o_tB, o_tI, o_tL, o_tT,
  Option.some.injEq, Bool.false_eq_true, if_true, if_false, ite_true, ite_false, Bool.not_true, Bool.not_false, List.length_cons, List.length_nil])
def ctIsLeast : Ctr := fun ds Q _ => ∃ (wide : Nat) (M t : Form), ds = [dF t, dMa M, dN wide] ∧ Wf wide M ∧ Small wide M ∧ M.length < 4000 ∧ 1 ≤ wide ∧ LF wide M t ∧ mv t 0 0 = 0 ∧ Q (false, .bl true)
theorem b_isLeast {G : Str → Option (Nat × Ctr)} (g1 : G "_law_whole" = some (1, ctWhole)) (g2 : G "_law_counted" = some (1, ctCounted)) (g3 : G "_law_apart" = some (1, ctApart)) (g4 : G "_law_walked" = some (2, ctWalked)) : Body G 5 c_law_is_least ctIsLeast := by
  rintro ds Q E ⟨wide, M, t, rfl, F, S, hM, hw, L, hz, hQ⟩
  have T := L.wf
  have hl := L.len F
  have hn := S.n
  have hw2 := S.w
  have tp := T.pos
  have ST : Small wide t := ⟨by omega, hw2⟩
  unfold c_law_is_least
  rw [startE_3]
  show wCs _ _ _ [some (false, dF t), some (false, dMa M), some (false, dN wide), none, none] _
  rw [cs_cons']; trivial
  refine ⟨rfl, true, kit_tt, ?_⟩
  trivial
  rw [o_lenF]
  trivial
  rw [if_pos (by simp; omega), o_lenM]
  trivial
  have h1 : decide ((t.length : Int) ≤ (M.length : Int)) = true := by simp; omega
  rw [h1]
  trivial
  rw [cs_cons', c_for]; trivial
  refine ⟨t.map dS, rfl, fun i env => ∃ z3 z4, env = [some (false, dF t), some (false, dMa M), some (false, dN wide), z3, z4], ⟨_, _, rfl⟩, ?_, ?_⟩
  · rintro i x env hx ⟨z3, z4, rfl⟩
    rw [List.getElem?_map, Option.map_eq_some_iff] at hx
    obtain ⟨s, hs, rfl⟩ := hx
    have hsw := T.ww s (List.mem_of_getElem? hs)
    have hst := T.lt s (List.mem_of_getElem? hs)
    trivial
    rw [cs_cons']; trivial
    refine ⟨rfl, true, kit_tt, ?_⟩
    trivial
    have hlen : ∀ {Q : R → Prop}, wFn1 .len (dS s) Q = Q (false, .int 2) := rfl
    rw [hlen]
    trivial
    have h2 : (!decide ((2 : Int) = 2)) = false := by decide
    have hisC : ∀ b, isC (.bl b) = true := fun b => rfl
    have hor : ∀ (b : Bool), isD (.bl b) (.bl true) = b ∧ isD (.bl b) (.bl false) = !b := fun b => by cases b <;> exact ⟨rfl, rfl⟩
    rw [if_neg (by simp), i_S0]
    refine ⟨hisC _, ?_⟩
    rw [(hor s.1).1]
    have rest : ∀ bk ct : VE → Prop, wCs G (fun x _ => E x) (.cons (.ite (.or (.not (.val (.isi (.idx (.var 3) (.int 1)) "tuple"))) (.val (.cmp .ne (.fn1 .len (.idx (.var 3) (.int 1))) (.var 2)))) (.cons (.ret (.bl false)) .nil) .nil) (.cons (.for_ (.nm 4) (.seq (.idx (.var 3) (.int 1))) (.cons (.ite (.or (.not (.val (.call "_law_whole" (.cons (.var 4) .nil)))) (.not (.val (.chain .le .lt (.int 0) (.var 4) (.fn1 .len (.var 0)))))) (.cons (.ret (.bl false)) .nil) .nil) .nil)) .nil)) [some (false, dF t), some (false, dMa M), some (false, dN wide), some (false, dS s), z4] { nx := fun env => ∃ z3 z4, env = [some (false, dF t), some (false, dMa M), some (false, dN wide), z3, z4], rt := Q, bk := bk, ct := ct } := by
      intro bk ct
      rw [cs_cons']; trivial
      rw [i_S1]
      refine ⟨rfl, true, kit_tt, ?_⟩
      trivial
      rw [i_S1]
      trivial
      rw [List.length_map, hsw, if_neg (by simp)]
      rw [cs_cons', c_for]; trivial
      rw [i_S1]
      refine ⟨s.2.map dN, rfl, fun i env => ∃ z4, env = [some (false, dF t), some (false, dMa M), some (false, dN wide), some (false, dS s), z4], ⟨_, rfl⟩, ?_, ?_⟩
      · rintro j x env hx ⟨z4, rfl⟩
        rw [List.getElem?_map, Option.map_eq_some_iff] at hx
        obtain ⟨m, hm, rfl⟩ := hx
        have hmt := hst m (List.mem_of_getElem? hm)
        trivial
        rw [cs_cons']; trivial
        refine ⟨_, g1, rfl, _, rfl, ?_⟩
        trivial
        rw [if_pos (by simp), o_lenF]
        trivial
        have h3 : decide ((m : Int) < (t.length : Int)) = true := by simp; omega
        rw [h3]
        trivial
        exact ⟨_, rfl⟩
      · rintro env ⟨z4, rfl⟩
        exact ⟨_, _, rfl⟩
    by_cases hs1 : s.1 = true
    · rw [if_pos hs1]; exact rest _ _
    · rw [if_neg hs1, i_S0]
      refine ⟨hisC _, ?_⟩
      rw [(hor s.1).2]
      have hs0 : s.1 = false := by simpa using hs1
      rw [hs0, if_neg (by simp)]
      exact rest _ _
  · rintro env ⟨z3, z4, rfl⟩
    have z0 : ((0 : Nat) : Int) = 0 := rfl
    have hl0 : 0 < (st t 0).2.length := by rw [T.len tp]; exact hw
    have ha : L2.atI ((st t 0).2.map dN) (0 : Int) = some (dN 0) := by
      refine atI_get (n := 0) ?_
      unfold mv at hz
      rw [getD_lt hl0] at hz
      rw [List.getElem?_map, List.getElem?_eq_getElem hl0, hz]; rfl
    have hF : ∀ {W : D → Prop}, wIdx (dF t) (.int 0) W ↔ W (dS (st t 0)) := i_F (s := 0) tp
    rw [cs_cons']; trivial
    rw [hF, i_S1]
    trivial
    refine ⟨_, ha, ?_⟩
    trivial
    rw [if_neg (by simp)]
    refine ⟨_, g2, rfl, wide, t, rfl, T, ST, L.ord, ?_⟩
    trivial
    rw [cs_cons']; trivial
    refine ⟨_, g3, rfl, wide, t, rfl, T, ST, by omega, L.apart, ?_⟩
    trivial
    exact ⟨_, g4, rfl, wide, M, t, rfl, F, S, L, hQ⟩
end Vi
set_option Elab.async false
set_option linter.all false
set_option maxRecDepth 100000
/-! FmK: the law of least forms: its inputs. -/
namespace Vi
open PySem
local macro_rules | `(tactic| trivial) => `(tactic| simp only [w_var, w_non, w_bl, w_int, w_str, w_tup, w_lst, w_bin, w_cmp, w_chain, w_neg, w_notv, w_andv, w_orv, w_ife, w_idx, w_slc, w_call, w_fn1, w_fn2, w_isi, w_isiT, w_dnew, w_dnew1, w_nil, w_cons, w_onone, w_osome, w_val, w_not, w_and, w_or, w_tnone, w_tone, w_seqO, w_rng1, w_rng2, w_vals,
  c_set, c_setT, c_setIx, c_app, c_ex, c_retV, c_retN, c_ite, c_brk, c_cont, c_pass, cs_nil', b_var, b_non, b_bl, b_int, b_str, b_tup, b_lst, b_bin, b_cmp, b_chain, b_neg, b_notv, b_andv, b_orv, b_ife, b_idx, b_slc, b_call, b_fn1, b_fn2, b_isi, b_isiT, b_lc, b_dc, b_dnew, b_dnew1,
  r_non, r_bl, r_int, r_str, r_tup, r_lst, r_bin, r_cmp, r_chain, r_neg, r_notv, r_andv, r_orv, r_ife, r_idx, r_slc, r_call, r_fn1, r_fn2, r_isi, r_isiT, r_dnew, r_dnew1,
  List.getElem?_cons_zero, List.getElem?_cons_succ, List.set_cons_zero, List.set_cons_succ, frzL, frz1, itFz, wipeE, Tg.slots, bindT, bindTs,
  o_addI, o_addT, o_addL, o_sub, o_mulI, o_mulL, o_fdiv, o_mod, o_pow, o_lt, o_le, o_gt, o_ge, o_is, o_isn, o_mem, o_nmem, o_eqI, o_neI, o_ixL, o_ixT, o_ixD, o_ixDt, o_ixDb, o_slcL, o_slcT, o_lenL, o_lenT, o_lenD, o_intI, o_intB, o_tupL, o_tupT, o_lstL, o_lstT, o_maxL, o_maxT, o_abs, o_max2, o_min2, o_tN, o_tB, o_tI, o_tL, o_tT,
  Option.some.injEq, Bool.false_eq_true, if_true, if_false, ite_true, ite_false, Bool.not_true, Bool.not_false, List.length_cons, List.length_nil])
theorem ite_to {G : Str → Option (Nat × Ctr)} {E : XD → VE → Prop} {t : Tx} {a b rest : Cms} {env : VE} {K : KE} (J : VE → Prop) (hr : ∀ e, J e → wCs G E rest e K)
    (h : (∀ e, J e → wCs G E rest e K) → wC G E (.ite t a b) env { K with nx := fun e => wCs G E rest e K }) : wCs G E (.cons (.ite t a b) rest) env K := h hr
/-- a row of the law: digits below 840 -/
structure RowOk (row : List Int) (n : Nat) : Prop where
  len : row.length = n
  ok : ∀ x ∈ row, 0 ≤ x ∧ x < 840
theorem RowOk.at {row : List Int} {n : Nat} (r : RowOk row n) {i : Int} (k : Nat) (e : i = (k : Int)) (h : k < n) : ∃ x : Int, L2.atI (row.map D.int) i = some (.int x) ∧ 0 ≤ x ∧ x < 840 := by
  subst e
  have hk : k < row.length := by rw [r.len]; exact h
  exact ⟨row[k], atI_get (by simp [hk]), r.ok _ (List.getElem_mem hk)⟩
theorem Bd.all {P : Int → Prop} (h : ∀ x s, 0 ≤ x → x < s → s < 1000 → P x) : ∀ {xs ss : List Int}, Bd xs ss → (∀ s ∈ ss, s < 1000) → ∀ x ∈ xs, P x
  | _, _, .nil, _, x, hx => by cases hx
  | _, _, .cons a b t, hs, x, hx => by
    rcases List.mem_cons.mp hx with e | hx
    · rw [e]; exact h _ _ a b (hs _ List.mem_cons_self)
    · exact Bd.all h t (fun s q => hs s (List.mem_cons_of_mem _ q)) x hx
theorem Bd.le840 : ∀ {xs ss : List Int}, Bd xs ss → (∀ s ∈ ss, s ≤ 840) → ∀ x ∈ xs, 0 ≤ x ∧ x < 840
  | _, _, .nil, _, x, hx => by cases hx
  | _, _, .cons a b t, hs, x, hx => by
    rcases List.mem_cons.mp hx with e | hx
    · subst e; have := hs _ List.mem_cons_self; omega
    · exact Bd.le840 t (fun s q => hs s (List.mem_cons_of_mem _ q)) x hx
theorem szs_le {wide upto : Nat} : ∀ s ∈ szs wide upto, s ≤ 840 := fun s hs => by
  unfold szs at hs
  simp only [List.mem_cons, List.mem_flatten, List.mem_replicate] at hs
  rcases hs with rfl | rfl | ⟨l, ⟨_, rfl⟩, hs⟩
  · omega
  · split <;> omega
  · simp only [List.mem_cons, List.mem_replicate] at hs
    omega
theorem cut_int {row : List Int} {lo hi : Nat} (h1 : lo ≤ hi) (h2 : hi ≤ row.length) : cutD (row.map D.int) (some (lo : Int)) (some (hi : Int)) = ((row.drop lo).take (hi - lo)).map D.int := by
  unfold cutD
  rw [HT.sIx_nat, HT.sIx_nat, List.length_map, Nat.min_eq_left (by omega), Nat.min_eq_left (by omega), List.map_take, List.map_drop]
/-- the moves of one state -/
structure Mvs (wide many : Nat) (l : List Nat) : Prop where
  len : l.length = wide
  lt : ∀ m ∈ l, m < many
theorem natD {x : Int} (h : 0 ≤ x) : D.int x = dN x.toNat := by show D.int x = D.int (x.toNat : Int); rw [Int.toNat_of_nonneg h]
/-- a list of moves by digits: each below many -/
theorem mvs_seq {G : Str → Option (Nat × Ctr)} {E : XD → VE → Prop} {Q : R → VE → Prop} {env : VE} {dg : List Int} {elt : Ex} {s sd : Nat} {o : Bool} {wide many : Nat} (hl : dg.length = wide) (hw : wide ≤ 8) (hd : env[s]? = some (some (o, .lst (dg.map D.int))))
    (h : ∀ x ∈ dg, ∃ v : Int, 0 ≤ v ∧ v < many ∧ ∀ P : R → VE → Prop, (∀ o, P (o, .int v) ((env.set sd none).set sd (some (false, .int x)))) → wE G E elt ((env.set sd none).set sd (some (false, .int x))) P)
    (hQ : ∀ l, Mvs wide many l → Q (true, .lst (l.map dN)) env) : wE G E (.lc [] elt (.nm sd) (.seq (.var s)) .none) env Q := by
  have key : ∃ l : List Nat, l.length = dg.length ∧ ∀ i (hi : i < l.length), ∃ (x : Int), dg[i]? = some x ∧ l[i] < many ∧ ∀ P : R → VE → Prop, (∀ o, P (o, dN l[i]) ((env.set sd none).set sd (some (false, .int x)))) → wE G E elt ((env.set sd none).set sd (some (false, .int x))) P :=
    exists_fun (n := dg.length) (P := fun i v => ∃ (x : Int), dg[i]? = some x ∧ v < many ∧ ∀ P : R → VE → Prop, (∀ o, P (o, dN v) ((env.set sd none).set sd (some (false, .int x)))) → wE G E elt ((env.set sd none).set sd (some (false, .int x))) P) fun i hi => by
      obtain ⟨v, h0, h1, h2⟩ := h dg[i] (List.getElem_mem hi)
      refine ⟨v.toNat, dg[i], List.getElem?_eq_getElem hi, by omega, ?_⟩
      rw [← natD h0]; exact h2
  obtain ⟨l, l1, l2⟩ := key
  refine w_lcI (dg.map D.int) (l.map dN) (fun Q' h => ?_) (by simp [l1]) (by simp [size_eq]; omega) (fun i x r hx hr => ?_) (hQ l ⟨by omega, fun m hm => ?_⟩)
  · trivial
    rw [hd]
    exact ⟨_, rfl, h⟩
  · rw [List.getElem?_map, Option.map_eq_some_iff] at hx
    obtain ⟨y, hy, rfl⟩ := hx
    rw [List.getElem?_map, Option.map_eq_some_iff] at hr
    obtain ⟨n, hn, rfl⟩ := hr
    obtain ⟨hi, e⟩ := List.getElem?_eq_some_iff.mp hn
    obtain ⟨x, e1, e2, e3⟩ := l2 i hi
    rw [hy] at e1; cases e1
    trivial
    rw [e] at e3
    exact e3
  · obtain ⟨i, hi, rfl⟩ := List.mem_iff_getElem.mp hm
    obtain ⟨x, e1, e2, e3⟩ := l2 i hi
    exact e2
theorem mvs_rng {G : Str → Option (Nat × Ctr)} {E : XD → VE → Prop} {Q : R → VE → Prop} {env : VE} {fz : List Nat} {elt : Ex} {s sd : Nat} {wide many : Nat} (hw : wide ≤ 8) (hf : frzL env fz = env) (hd : env[s]? = some (some (false, dN wide)))
    (h : ∀ j : Nat, j < wide → ∃ v : Int, 0 ≤ v ∧ v < many ∧ ∀ P : R → VE → Prop, (∀ o, P (o, .int v) ((env.set sd none).set sd (some (false, dN j)))) → wE G E elt ((env.set sd none).set sd (some (false, dN j))) P)
    (hQ : ∀ l, Mvs wide many l → Q (true, .lst (l.map dN)) env) : wE G E (.lc fz elt (.nm sd) (.rng1 (.var s)) .none) env Q := by
  have key : ∃ l : List Nat, l.length = wide ∧ ∀ i (hi : i < l.length), l[i] < many ∧ ∀ P : R → VE → Prop, (∀ o, P (o, dN l[i]) ((env.set sd none).set sd (some (false, dN i)))) → wE G E elt ((env.set sd none).set sd (some (false, dN i))) P :=
    exists_fun (n := wide) (P := fun i v => v < many ∧ ∀ P : R → VE → Prop, (∀ o, P (o, dN v) ((env.set sd none).set sd (some (false, dN i)))) → wE G E elt ((env.set sd none).set sd (some (false, dN i))) P) fun i hi => by
      obtain ⟨v, h0, h1, h2⟩ := h i hi
      refine ⟨v.toNat, by omega, ?_⟩
      rw [← natD h0]; exact h2
  obtain ⟨l, l1, l2⟩ := key
  refine w_lcI ((List.range wide).map dN) (l.map dN) (fun Q' h => ?_) (by simp [l1]) (by simp [size_eq]; omega) (fun i x r hx hr => ?_) ?_
  · rw [hf] at h ⊢
    trivial
    rw [hd]
    trivial
    rw [int_range]
    exact ⟨by omega, by omega, h⟩
  · have hi : i < wide := by have := (List.getElem?_eq_some_iff.mp hx).1; simpa using this
    rw [List.getElem?_map, List.getElem?_range hi] at hx; cases hx
    rw [List.getElem?_map, Option.map_eq_some_iff] at hr
    obtain ⟨n, hn, rfl⟩ := hr
    obtain ⟨hi, e⟩ := List.getElem?_eq_some_iff.mp hn
    obtain ⟨e2, e3⟩ := l2 i hi
    rw [hf]
    trivial
    rw [e] at e3
    exact e3
  · rw [hf]
    refine hQ l ⟨l1, fun m hm => ?_⟩
    obtain ⟨i, hi, rfl⟩ := List.mem_iff_getElem.mp hm
    exact (l2 i hi).1
end Vi
set_option Elab.async false
set_option linter.all false
set_option maxRecDepth 100000
/-! FmL: the law of least forms: its forms. -/
namespace Vi
open PySem
local macro_rules | `(tactic| trivial) => `(tactic| simp only [w_var, w_non, w_bl, w_int, w_str, w_tup, w_lst, w_bin, w_cmp, w_chain, w_neg, w_notv, w_andv, w_orv, w_ife, w_idx, w_slc, w_call, w_fn1, w_fn2, w_isi, w_isiT, w_dnew, w_dnew1, w_nil, w_cons, w_onone, w_osome, w_val, w_not, w_and, w_or, w_tnone, w_tone, w_seqO, w_rng1, w_rng2, w_vals,
  c_set, c_setT, c_setIx, c_app, c_ex, c_retV, c_retN, c_ite, c_brk, c_cont, c_pass, cs_nil', b_var, b_non, b_bl, b_int, b_str, b_tup, b_lst, b_bin, b_cmp, b_chain, b_neg, b_notv, b_andv, b_orv, b_ife, b_idx, b_slc, b_call, b_fn1, b_fn2, b_isi, b_isiT, b_lc, b_dc, b_dnew, b_dnew1,
  r_non, r_bl, r_int, r_str, r_tup, r_lst, r_bin, r_cmp, r_chain, r_neg, r_notv, r_andv, r_orv, r_ife, r_idx, r_slc, r_call, r_fn1, r_fn2, r_isi, r_isiT, r_dnew, r_dnew1,
  List.getElem?_cons_zero, List.getElem?_cons_succ, List.set_cons_zero, List.set_cons_succ, frzL, frz1, itFz, wipeE, Tg.slots, bindT, bindTs,
  o_addI, o_addT, o_addL, o_sub, o_mulI, o_mulL, o_fdiv, o_mod, o_pow, o_lt, o_le, o_gt, o_ge, o_is, o_isn, o_mem, o_nmem, o_eqI, o_neI, o_ixL, o_ixT, o_ixD, o_ixDt, o_ixDb, o_slcL, o_slcT, o_lenL, o_lenT, o_lenD, o_intI, o_intB, o_tupL, o_tupT, o_lstL, o_lstT, o_maxL, o_maxT, o_abs, o_max2, o_min2, o_tN, o_tB, o_tI, o_tL, o_tT,
  Option.some.injEq, Bool.false_eq_true, if_true, if_false, ite_true, ite_false, Bool.not_true, Bool.not_false, List.length_cons, List.length_nil])
theorem tab {P : Int → Prop} (L : List Int) (hP : ∀ v ∈ L, P v) {y : Int} (h0 : 0 ≤ y) (h1 : y < L.length) : ∃ v, L2.atI (L.map D.int) y = some (.int v) ∧ P v := by
  obtain ⟨n, rfl⟩ := Int.eq_ofNat_of_zero_le h0
  have hn : n < L.length := by omega
  exact ⟨L[n], atI_get (by simp [hn]), hP _ (List.getElem_mem hn)⟩
theorem t_eq0 {G : Str → Option (Nat × Ctr)} {E : XD → VE → Prop} {env : VE} {Q : Bool → VE → Prop} {row : List D} {o : Bool} {x n : Int} (h : env[0]? = some (some (o, .lst row))) (hx : L2.atI row 0 = some (.int x)) :
    wT G E (.val (.cmp .eq (.idx (.var 0) (.int 0)) (.int n))) env Q ↔ Q (decide (x = n)) env := by
  trivial
  rw [h]
  simp only [o_ixL, hx, Option.some.injEq, exists_eq_left', o_eqI, o_tB]
def ctForm : Ctr := fun ds Q _ => ∃ (wide upto : Nat) (row : List Int), ds = [.lst (row.map D.int), dN wide] ∧ 1 ≤ wide ∧ wide ≤ 8 ∧ 1 ≤ upto ∧ upto ≤ 300 ∧ RowOk row (2 + upto * (wide + 1)) ∧ ∀ f, Wf wide f → f.length ≤ 300 → Q (true, dL f)
/-- between the statements of the loop -/
def LfEnv (row : List Int) (wide upto many half : Nat) (lv : Bool) (mk : List Bool) (x0 : Int) (form : Form) (dg : List Int) (k n : Nat) (e : VE) : Prop :=
  ∃ (b : Bool) (l : List Nat) (o : Bool) (cores : Form) (z14 : SV), Mvs wide many l ∧ (∀ s ∈ cores, Mvs wide half s.2) ∧ (x0 = 4 → cores.length = n) ∧
    e = [some (false, .lst (row.map D.int)), some (false, dN wide), some (false, dN upto), some (false, dN many), some (false, .bl lv), some (true, .lst (mk.map D.bl)), some (false, dN k), some (false, dN half),
      some (true, .lst (cores.map dSL)), some (true, .lst (form.map dSL)), some (false, .bl b), some (true, .lst (dg.map D.int)), some (o, .lst (l.map dN)), none, z14, none]
theorem b_form {G : Str → Option (Nat × Ctr)} : Body G 16 c_law_form ctForm := by
  rintro ds Q E ⟨wide, upto, row, rfl, w1, w8, u1, u3, r, hQ⟩
  have hlen := r.len
  have hge : wide + 1 ≤ upto * (wide + 1) := Nat.le_mul_of_pos_left _ u1
  have cw : ∀ k : Nat, (k : Int) * ((wide : Int) + 1) = ((k * (wide + 1) : Nat) : Int) := fun k => by rw [Int.natCast_mul]; rfl
  have kb : ∀ k, k < upto → k * (wide + 1) + (wide + 1) ≤ upto * (wide + 1) := fun k hk => by
    have := Nat.mul_le_mul_right (wide + 1) (show k + 1 ≤ upto from hk)
    rwa [Nat.succ_mul] at this
  have hbig : upto * (wide + 1) ≤ 2700 := by
    have := Nat.mul_le_mul u3 (show wide + 1 ≤ 9 by omega)
    omega
  unfold c_law_form
  rw [startE_2]
  show wCs _ _ _ [some (false, .lst (row.map D.int)), some (false, dN wide), none, none, none, none, none, none, none, none, none, none, none, none, none, none] _
  rw [cs_cons']; trivial
  have e1 : (((row.map D.int).length : Int) - 2) / ((wide : Int) + 1) = (upto : Int) := by
    rw [List.length_map, hlen]
    have : ((2 + upto * (wide + 1) : Nat) : Int) - 2 = (upto : Int) * ((wide : Int) + 1) := by rw [cw]; omega
    rw [this]
    exact Int.mul_ediv_cancel _ (by omega)
  rw [e1]
  refine ⟨⟨by omega, by omega⟩, ?_⟩
  rw [cs_cons']; trivial
  obtain ⟨x1, hx1, p1, p2⟩ := r.at (i := 1) 1 rfl (by omega)
  refine ⟨by rw [size_eq]; omega, _, hx1, ?_⟩
  trivial
  obtain ⟨v, hv, v1, v2⟩ := tab (P := fun v => 1 ≤ v ∧ v ≤ 8) [1, 2, 2, 3, 3, 4, 4, 5, 5, 6, 6, 7, 7, 8, 8, 8] (by decide) (y := x1 % 16) (by omega) (by show x1 % 16 < 16; omega)
  refine ⟨by omega, .int v, hv, ?_⟩
  trivial
  have em : ∃ many : Nat, (if v < (upto : Int) then v else (upto : Int)) = (many : Int) ∧ 1 ≤ many ∧ many ≤ upto := by
    refine ⟨(if v < (upto : Int) then v else (upto : Int)).toNat, ?_, ?_, ?_⟩ <;> split <;> omega
  obtain ⟨many, em, m1, m2⟩ := em
  rw [em]
  rw [cs_cons']; trivial
  refine ⟨_, hx1, ?_⟩
  trivial
  refine ⟨by omega, ?_⟩
  generalize decide (15 < x1 % 32) = lv
  refine ite_to (fun e => ∃ (many : Nat) (lv : Bool), 1 ≤ many ∧ many ≤ upto ∧ e = [some (false, .lst (row.map D.int)), some (false, dN wide), some (false, dN upto), some (false, dN many), some (false, .bl lv), none, none, none, none, none, none, none, none, none, none, none]) ?_ ?_
  case refine_2 =>
    intro hr
    trivial
    by_cases q : 8 < upto
    · rw [if_pos (by simp; omega), cs_cons']; trivial
      refine ⟨_, hx1, ?_⟩
      trivial
      have q2 : x1 % ((upto : Int) - 8) < (upto : Int) - 8 := Int.emod_lt_of_pos _ (by omega)
      have q3 : 0 ≤ x1 % ((upto : Int) - 8) := Int.emod_nonneg _ (by omega)
      refine ⟨by omega, ?_⟩
      have e2 : 9 + x1 % ((upto : Int) - 8) = (((9 + x1 % ((upto : Int) - 8)).toNat : Nat) : Int) := by omega
      rw [e2, cs_cons']; trivial
      obtain ⟨x2, hx2, _⟩ := r.at (i := 2) 2 rfl (by omega)
      refine ⟨_, hx2, ?_⟩
      trivial
      exact hr _ ⟨_, _, by omega, by omega, rfl⟩
    · rw [if_neg (by simp; omega)]
      exact hr _ ⟨many, lv, m1, m2, rfl⟩
  clear em m1 m2 many lv
  rintro e ⟨many, lv, m1, m2, rfl⟩
  rw [cs_cons']; trivial
  refine w_lcI ((List.range many).map dN) (((List.range many).map fun k => decide (row.getD (2 + k * (wide + 1)) 0 % 2 = 1)).map D.bl) (fun Q' h => ?_) (by simp) (by simp [size_eq]; omega) (fun i x r' hx hr => ?_) ?_
  · trivial
    rw [int_range]
    exact ⟨by omega, by omega, h⟩
  · have hi : i < many := by have := (List.getElem?_eq_some_iff.mp hx).1; simpa using this
    rw [List.getElem?_map, List.getElem?_range hi] at hx; cases hx
    rw [List.getElem?_map, List.getElem?_map, List.getElem?_range hi] at hr; cases hr
    have hk := kb i (by omega)
    have hn : 2 + i * (wide + 1) < row.length := by omega
    trivial
    intro P hP
    rw [cw]
    refine ⟨.inl ⟨by omega, by omega⟩, .int (row.getD (2 + i * (wide + 1)) 0), ?_, ?_⟩
    · rw [show (2 : Int) + ((i * (wide + 1) : Nat) : Int) = ((2 + i * (wide + 1) : Nat) : Int) by omega]
      refine atI_get ?_
      rw [List.getElem?_map, List.getElem?_eq_getElem hn, getD_lt hn]; rfl
    · trivial
      exact ⟨by omega, hP _⟩
  have hml : ((List.range many).map fun k => decide (row.getD (2 + k * (wide + 1)) 0 % 2 = 1)).length = many := by simp
  generalize ((List.range many).map fun k => decide (row.getD (2 + k * (wide + 1)) 0 % 2 = 1)) = mk at hml
  trivial
  refine ite_to (fun e => ∃ (mk : List Bool), mk.length = many ∧ e = [some (false, .lst (row.map D.int)), some (false, dN wide), some (false, dN upto), some (false, dN many), some (false, .bl lv), some (true, .lst (mk.map D.bl)), none, none, none, none, none, none, none, none, none, none]) ?_ ?_
  case refine_2 =>
    intro hr
    trivial
    by_cases q : 1 < many
    · rw [if_pos (by simp; omega)]
      cases lv with
      | false =>
        rw [if_neg (by simp)]
        exact hr _ ⟨mk, hml, rfl⟩
      | true =>
        rw [if_pos rfl, cs_cons']; trivial
        refine ⟨.bl mk[0], atI_get (n := 0) (by rw [List.getElem?_map, List.getElem?_eq_getElem (by omega)]; rfl), ?_⟩
        trivial
        refine ⟨⟨_, rfl⟩, 1, ixN_nat (k := 1) (by rw [List.length_map]; omega), ?_⟩
        refine hr _ ⟨mk.set 1 (!mk[0]), by rw [List.length_set]; exact hml, ?_⟩
        rw [List.map_set]
    · rw [if_neg (by simp; omega)]
      exact hr _ ⟨mk, hml, rfl⟩
  clear hml mk
  rintro e ⟨mk, hml, rfl⟩
  rw [cs_cons']; trivial
  refine ⟨⟨by omega, by omega⟩, ?_⟩
  have eh : ((many : Int) + 1) / 2 = (((many + 1) / 2 : Nat) : Int) := by omega
  rw [eh]
  have hh1 : 1 ≤ (many + 1) / 2 := by omega
  have hh2 : (many + 1) / 2 ≤ many := by omega
  generalize (many + 1) / 2 = half at *
  rw [cs_cons']; trivial
  refine ⟨by rw [size_eq]; omega, ?_⟩
  rw [cs_cons']; trivial
  refine ⟨by rw [size_eq]; omega, ?_⟩
  obtain ⟨x0, hx0, p3, p4⟩ := r.at (i := 0) 0 rfl (by omega)
  rw [cs_cons', c_for]; trivial
  rw [int_range]
  refine ⟨by omega, by omega, fun i e => ∃ (form cores : Form) (z6 z10 z11 z12 z14 : SV), form.length = i ∧ (∀ s ∈ form, Mvs wide many s.2) ∧ (∀ s ∈ cores, Mvs wide half s.2) ∧ (x0 = 4 → cores.length = i) ∧
    e = [some (false, .lst (row.map D.int)), some (false, dN wide), some (false, dN upto), some (false, dN many), some (false, .bl lv), some (true, .lst (mk.map D.bl)), z6, some (false, dN half),
      some (true, .lst (cores.map dSL)), some (true, .lst (form.map dSL)), z10, z11, z12, none, z14, none], ⟨[], [], _, _, _, _, _, rfl, by simp, by simp, fun _ => rfl, rfl⟩, ?_, ?_⟩
  · rintro i x e hx ⟨form, cores, z6, z10, z11, z12, z14, f1, f2, c1, c2, rfl⟩
    have hi : i < many := by have := (List.getElem?_eq_some_iff.mp hx).1; simpa using this
    rw [List.getElem?_map, List.getElem?_range hi] at hx; cases hx
    have hk := kb i (by omega)
    have hmk : i < mk.length := by omega
    trivial
    rw [cs_cons']; trivial
    refine ⟨.bl mk[i], atI_get (by simp [hmk]), ?_⟩
    rw [cs_cons']; trivial
    rw [cw]
    refine ⟨.inl ⟨by omega, by omega⟩, .inl ⟨by omega, by omega⟩, ?_⟩
    have ec : cutD (row.map D.int) (some (3 + ((i * (wide + 1) : Nat) : Int))) (some (3 + ((i * (wide + 1) : Nat) : Int) + (wide : Int))) = ((row.drop (3 + i * (wide + 1))).take wide).map D.int := by
      rw [show (3 : Int) + ((i * (wide + 1) : Nat) : Int) = ((3 + i * (wide + 1) : Nat) : Int) by omega, show ((3 + i * (wide + 1) : Nat) : Int) + (wide : Int) = ((3 + i * (wide + 1) + wide : Nat) : Int) by omega, cut_int (by omega) (by omega)]
      rw [show 3 + i * (wide + 1) + wide - (3 + i * (wide + 1)) = wide by omega]
    rw [ec]
    have dl : ((row.drop (3 + i * (wide + 1))).take wide).length = wide := by rw [List.length_take, List.length_drop]; omega
    have dp : ∀ x ∈ (row.drop (3 + i * (wide + 1))).take wide, 0 ≤ x ∧ x < 840 := fun x hx => r.ok x (List.mem_of_mem_drop (List.mem_of_mem_take hx))
    generalize (row.drop (3 + i * (wide + 1))).take wide = dg at dl dp
    generalize mk[i] = b0
    rw [cs_cons']; trivial
    refine mvs_seq (s := 11) (sd := 13) (o := true) (many := many) dl w8 rfl (fun x hx => ⟨x % many, Int.emod_nonneg _ (by omega), Int.emod_lt_of_pos _ (by omega), fun P hP => ?_⟩) fun l ml => ?_
    · trivial
      exact ⟨by omega, hP _⟩
    trivial
    -- moves to later states
    refine ite_to (LfEnv row wide upto many half lv mk x0 form dg i i) ?_ ?_
    case refine_2 =>
      intro hr
      trivial
      refine ⟨_, hx0, ?_⟩
      trivial
      by_cases q3 : x0 = 3
      · rw [if_pos (by simp; omega)]
        by_cases q4 : i < many - 1
        · rw [if_pos (by simp; omega), cs_cons']; trivial
          refine mvs_seq (s := 11) (sd := 13) (o := true) (many := many) dl w8 rfl (fun x hx => ⟨(i : Int) + 1 + (x / 2 % ((many : Int) - 1 - (i : Int))) * (x % 2), ?_, ?_, fun P hP => ?_⟩) fun l ml => ?_
          · have a1 := Int.emod_nonneg (x / 2) (show (many : Int) - 1 - (i : Int) ≠ 0 by omega)
            rcases (show x % 2 = 0 ∨ x % 2 = 1 by omega) with h | h <;> rw [h] <;> omega
          · have a1 := Int.emod_lt_of_pos (x / 2) (show 0 < (many : Int) - 1 - (i : Int) by omega)
            rcases (show x % 2 = 0 ∨ x % 2 = 1 by omega) with h | h <;> rw [h] <;> omega
          · trivial
            exact ⟨⟨by omega, by omega⟩, by omega, by omega, .inr ⟨by omega, by omega⟩, hP _⟩
          · trivial
            rw [cs_cons']; trivial
            cases b0 with
            | true => rw [if_pos rfl]; exact hr _ ⟨true, l, true, cores, z14, ml, c1, c2, rfl⟩
            | false =>
              rw [if_neg (by simp)]
              cases lv with
              | true => rw [if_pos rfl]; exact hr _ ⟨_, l, true, cores, z14, ml, c1, c2, rfl⟩
              | false => rw [if_neg (by simp)]; exact hr _ ⟨_, l, true, cores, z14, ml, c1, c2, rfl⟩
        · rw [if_neg (by simp; omega)]
          exact hr _ ⟨b0, l, true, cores, z14, ml, c1, c2, rfl⟩
      · rw [if_neg (by simp; omega)]
        exact hr _ ⟨b0, l, true, cores, z14, ml, c1, c2, rfl⟩
    clear ml l c1 c2
    rintro e ⟨b, l, o, cores, z14, ml, c1, c2, rfl⟩
    -- two copies of each state
    refine ite_to (LfEnv row wide upto many half lv mk x0 form dg i (i + 1)) ?_ ?_
    case refine_2 =>
      intro hr
      trivial
      refine ⟨_, hx0, ?_⟩
      trivial
      by_cases q3 : x0 = 4
      · rw [if_pos (by simp; omega), cs_cons']; trivial
        have cl := c2 q3
        refine mvs_seq (s := 11) (sd := 13) (o := true) (many := half) dl w8 rfl (fun x hx => ⟨x % half, Int.emod_nonneg _ (by omega), Int.emod_lt_of_pos _ (by omega), fun P hP => ?_⟩) fun l2 ml2 => ?_
        · trivial
          exact ⟨by omega, hP _⟩
        trivial
        refine ⟨by rw [size_eq]; omega, True.intro, by rw [List.length_map, size_eq]; omega, ?_⟩
        have ecs : (cores.map dSL ++ [D.lst [.bl b, .lst (l2.map dN)]]) = (cores ++ [(b, l2)]).map dSL := by rw [List.map_append]; rfl
        rw [ecs]
        have d1 : ∀ s ∈ cores ++ [(b, l2)], Mvs wide half s.2 := fun s hs => by
          rcases List.mem_append.mp hs with h | h
          · exact c1 s h
          · rw [List.mem_singleton] at h; subst h; exact ml2
        have d2 : (cores ++ [(b, l2)]).length = i + 1 := by simp [cl]
        generalize cores ++ [(b, l2)] = cores at d1 d2
        have hm1 : i % half < cores.length := by have := Nat.mod_le i half; omega
        rw [cs_cons']; trivial
        refine ⟨by omega, dSL cores[i % half], ?_, ?_⟩
        · rw [show (i : Int) % (half : Int) = ((i % half : Nat) : Int) by omega]
          exact atI_get (by simp [hm1])
        have dm := d1 _ (List.getElem_mem hm1)
        generalize cores[i % half] = core at dm
        rw [cs_cons']; trivial
        rw [i_L0]
        rw [cs_cons']; trivial
        refine mvs_rng (s := 1) (sd := 15) (many := many) w8 rfl rfl (fun j hj => ?_) fun l ml => ?_
        · have hcl : j < core.2.length := by rw [dm.len]; exact hj
          have hcv := dm.lt _ (List.getElem_mem hcl)
          have hdj : j < dg.length := by omega
          have a1 : L2.atI (core.2.map dN) (j : Int) = some (dN core.2[j]) := atI_get (by simp [hcl])
          have a2 : L2.atI (dg.map D.int) (j : Int) = some (.int dg[j]) := atI_get (by simp [hdj])
          generalize core.2[j] = cv at *
          generalize dg[j] = dv at *
          by_cases q5 : cv + half < many
          · refine ⟨(cv : Int) + (half : Int) * (if decide (dv / 8 % 2 = 1) = true then 1 else 0), ?_, ?_, fun P hP => ?_⟩
            · split <;> omega
            · split <;> omega
            · trivial
              rw [i_L1]; trivial
              refine ⟨_, a1, ?_⟩
              rw [i_L1]; trivial
              refine ⟨_, a1, ?_⟩
              trivial
              rw [if_pos (by simp; omega)]
              refine ⟨_, a2, ?_⟩
              trivial
              exact ⟨⟨by omega, by omega⟩, by omega, .inl ⟨by omega, by omega⟩, hP _⟩
          · refine ⟨(cv : Int), by omega, by omega, fun P hP => ?_⟩
            trivial
            rw [i_L1]; trivial
            refine ⟨_, a1, ?_⟩
            rw [i_L1]; trivial
            refine ⟨_, a1, ?_⟩
            trivial
            rw [if_neg (by simp; omega)]
            refine ⟨.inl ⟨by omega, by omega⟩, ?_⟩
            rw [Int.mul_zero, Int.add_zero]
            exact hP _
        · trivial
          exact hr _ ⟨core.1, l, true, cores, _, ml, d1, fun _ => d2, rfl⟩
      · rw [if_neg (by simp; omega)]
        exact hr _ ⟨b, l, o, cores, z14, ml, c1, fun h => absurd h q3, rfl⟩
    clear ml l c1 c2
    rintro e ⟨b, l, o, cores, z14, ml, c1, c2, rfl⟩
    -- one end
    refine ite_to (LfEnv row wide upto many half lv mk x0 form dg i (i + 1)) ?_ ?_
    case refine_2 =>
      intro hr
      obtain ⟨x2, hx2, _⟩ := r.at (i := 2) 2 rfl (by omega)
      rw [c_ite, w_or, t_eq0 rfl hx0]
      by_cases q3 : x0 = 5
      · rw [if_pos (by simp; omega), if_pos rfl, cs_cons']; trivial
        refine ⟨_, hx2, ?_⟩
        trivial
        refine ⟨by omega, ?_⟩
        generalize decide ((i : Int) = x2 % (many : Int)) = bb
        exact hr _ ⟨bb, l, o, cores, z14, ml, c1, c2, rfl⟩
      · rw [if_neg (by simp; omega), t_eq0 rfl hx0]
        by_cases q4 : x0 = 6
        · rw [if_pos (by simp; omega), cs_cons']; trivial
          refine ⟨_, hx2, ?_⟩
          trivial
          refine ⟨by omega, ?_⟩
          generalize decide ((i : Int) = x2 % (many : Int)) = bb
          exact hr _ ⟨bb, l, o, cores, z14, ml, c1, c2, rfl⟩
        · rw [if_neg (by simp; omega), cs_nil']
          exact hr _ ⟨b, l, o, cores, z14, ml, c1, c2, rfl⟩
    clear ml l c1 c2
    rintro e ⟨b, l, o, cores, z14, ml, c1, c2, rfl⟩
    -- moves by a rule
    refine ite_to (LfEnv row wide upto many half lv mk x0 form dg i (i + 1)) ?_ ?_
    case refine_2 =>
      intro hr
      trivial
      refine ⟨_, hx0, ?_⟩
      trivial
      by_cases q3 : x0 = 6
      · rw [if_pos (by simp; omega), cs_cons']; trivial
        obtain ⟨x3, hx3, y1, y2⟩ := r.at (i := 3) 3 rfl (by omega)
        refine mvs_rng (s := 1) (sd := 15) (many := many) w8 rfl rfl (fun j hj => ⟨(2 * (i : Int) + (j : Int) * (1 + x3)) % many, Int.emod_nonneg _ (by omega), Int.emod_lt_of_pos _ (by omega), fun P hP => ?_⟩) fun l ml => ?_
        · trivial
          refine ⟨.inl ⟨by omega, by omega⟩, _, hx3, ?_⟩
          trivial
          exact ⟨.inl ⟨by omega, by omega⟩, by omega, hP _⟩
        · trivial
          exact hr _ ⟨b, l, true, cores, z14, ml, c1, c2, rfl⟩
      · rw [if_neg (by simp; omega)]
        exact hr _ ⟨b, l, o, cores, z14, ml, c1, c2, rfl⟩
    clear ml l c1 c2
    rintro e ⟨b, l, o, cores, z14, ml, c1, c2, rfl⟩
    -- a dead state
    refine ite_to (LfEnv row wide upto many half lv mk x0 form dg i (i + 1)) ?_ ?_
    case refine_2 =>
      intro hr
      have self : ∀ K' : KE, (∀ l, Mvs wide many l → K'.nx [some (false, .lst (row.map D.int)), some (false, dN wide), some (false, dN upto), some (false, dN many), some (false, .bl lv), some (true, .lst (mk.map D.bl)), some (false, dN i), some (false, dN half),
          some (true, .lst (cores.map dSL)), some (true, .lst (form.map dSL)), some (false, .bl false), some (true, .lst (dg.map D.int)), some (true, .lst (l.map dN)), none, z14, none]) →
          wCs G (fun x _ => E x) (.cons (.set 10 (.bl false)) (.cons (.set 12 (.lc [6] (.var 6) (.nm 15) (.rng1 (.var 1)) .none)) .nil)) [some (false, .lst (row.map D.int)), some (false, dN wide), some (false, dN upto), some (false, dN many), some (false, .bl lv), some (true, .lst (mk.map D.bl)), some (false, dN i), some (false, dN half),
          some (true, .lst (cores.map dSL)), some (true, .lst (form.map dSL)), some (false, .bl b), some (true, .lst (dg.map D.int)), some (o, .lst (l.map dN)), none, z14, none] K' := fun K' hK => by
        rw [cs_cons']; trivial
        rw [cs_cons']; trivial
        refine mvs_rng (s := 1) (sd := 15) (many := many) w8 rfl rfl (fun j hj => ⟨(i : Int), by omega, by omega, fun P hP => ?_⟩) fun l ml => ?_
        · trivial
          exact hP _
        · trivial
          exact hK l ml
      trivial
      refine ⟨_, hx0, ?_⟩
      trivial
      by_cases q3 : x0 = 3
      · rw [if_pos (by simp; omega)]
        by_cases q4 : i = many - 1
        · rw [if_pos (by simp; omega)]
          exact self _ fun l ml => hr _ ⟨false, l, true, cores, z14, ml, c1, c2, rfl⟩
        · rw [if_neg (by simp; omega)]
          exact hr _ ⟨b, l, o, cores, z14, ml, c1, c2, rfl⟩
      · rw [if_neg (by simp; omega)]
        refine ⟨_, hx0, ?_⟩
        trivial
        by_cases q5 : x0 = 7
        · rw [if_pos (by simp; omega)]
          by_cases q4 : i = many - 1
          · rw [if_pos (by simp; omega)]
            exact self _ fun l ml => hr _ ⟨false, l, true, cores, z14, ml, c1, c2, rfl⟩
          · rw [if_neg (by simp; omega)]
            exact hr _ ⟨b, l, o, cores, z14, ml, c1, c2, rfl⟩
        · rw [if_neg (by simp; omega)]
          exact hr _ ⟨b, l, o, cores, z14, ml, c1, c2, rfl⟩
    clear ml l c1 c2
    rintro e ⟨b, l, o, cores, z14, ml, c1, c2, rfl⟩
    rw [cs_cons']; trivial
    refine ⟨by rw [size_eq]; omega, True.intro, by rw [List.length_map, size_eq]; omega, form ++ [(b, l)], cores, some (false, dN i), some (false, .bl b), some (true, .lst (dg.map D.int)), some (false, .lst (l.map dN)), z14, by simp [f1], fun s hs => ?_, c1, c2, ?_⟩
    · rcases List.mem_append.mp hs with h | h
      · exact f2 s h
      · rw [List.mem_singleton] at h; subst h; exact ml
    · rw [List.map_append]; rfl
  · rintro e ⟨form, cores, z6, z10, z11, z12, z14, f1, f2, c1, c2, rfl⟩
    rw [List.length_map, List.length_range] at f1
    rw [cs_cons']; trivial
    refine hQ form ⟨by omega, fun s hs => (f2 s hs).len, fun s hs m hm => ?_⟩ (by omega)
    rw [f1]; exact (f2 s hs).lt m hm
end Vi
set_option Elab.async false
set_option linter.all false
set_option maxRecDepth 100000
/-! FmM: the law of least forms: the law. -/
namespace Vi
open PySem
local macro_rules | `(tactic| trivial) => `(tactic| simp only [w_var, w_non, w_bl, w_int, w_str, w_tup, w_lst, w_bin, w_cmp, w_chain, w_neg, w_notv, w_andv, w_orv, w_ife, w_idx, w_slc, w_call, w_fn1, w_fn2, w_isi, w_isiT, w_dnew, w_dnew1, w_nil, w_cons, w_onone, w_osome, w_val, w_not, w_and, w_or, w_tnone, w_tone, w_seqO, w_rng1, w_rng2, w_vals,
  c_set, c_setT, c_setIx, c_app, c_ex, c_retV, c_retN, c_ite, c_brk, c_cont, c_pass, cs_nil', b_var, b_non, b_bl, b_int, b_str, b_tup, b_lst, b_bin, b_cmp, b_chain, b_neg, b_notv, b_andv, b_orv, b_ife, b_idx, b_slc, b_call, b_fn1, b_fn2, b_isi, b_isiT, b_lc, b_dc, b_dnew, b_dnew1,
  r_non, r_bl, r_int, r_str, r_tup, r_lst, r_bin, r_cmp, r_chain, r_neg, r_notv, r_andv, r_orv, r_ife, r_idx, r_slc, r_call, r_fn1, r_fn2, r_isi, r_isiT, r_dnew, r_dnew1,
  List.getElem?_cons_zero, List.getElem?_cons_succ, List.set_cons_zero, List.set_cons_succ, frzL, frz1, itFz, wipeE, Tg.slots, bindT, bindTs,
  o_addI, o_addT, o_addL, o_sub, o_mulI, o_mulL, o_fdiv, o_mod, o_pow, o_lt, o_le, o_gt, o_ge, o_is, o_isn, o_mem, o_nmem, o_eqI, o_neI, o_ixL, o_ixT, o_ixD, o_ixDt, o_ixDb, o_slcL, o_slcT, o_lenL, o_lenT, o_lenD, o_intI, o_intB, o_tupL, o_tupT, o_lstL, o_lstT, o_maxL, o_maxT, o_abs, o_max2, o_min2, o_tN, o_tB, o_tI, o_tL, o_tT,
  Option.some.injEq, Bool.false_eq_true, if_true, if_false, ite_true, ite_false, Bool.not_true, Bool.not_false, List.length_cons, List.length_nil])
theorem RowL {wide : Nat} {row : List Int} (h : Bd row ([4, 200] ++ (List.replicate wide [7, 300]).flatten ++ [12, 12])) : row.length = 4 + 2 * wide ∧ (∀ x ∈ row, 0 ≤ x ∧ x < 300) ∧ ∃ x1, row[1]? = some x1 ∧ 0 ≤ x1 ∧ x1 < 200 := by
  have hl := h.length
  rw [List.length_append, List.length_append, flat_len] at hl
  simp at hl
  refine ⟨by omega, fun x hx => ?_, ?_⟩
  · have key : ∀ {xs ss : List Int}, Bd xs ss → (∀ s ∈ ss, s ≤ 300) → ∀ x ∈ xs, 0 ≤ x ∧ x < 300 := by
      intro xs ss b
      induction b with
      | nil => intro _ x hx; cases hx
      | @cons y s ys ss a b t ih =>
        intro hs x hx
        rcases List.mem_cons.mp hx with e | hx
        · subst e; have := hs _ List.mem_cons_self; omega
        · exact ih (fun s q => hs s (List.mem_cons_of_mem _ q)) x hx
    refine key h (fun s hs => ?_) x hx
    simp only [List.mem_append, List.mem_cons, List.mem_flatten, List.mem_replicate, List.not_mem_nil, or_false] at hs
    rcases hs with ((rfl | rfl) | ⟨l, ⟨_, rfl⟩, hs⟩) | (rfl | rfl)
    · omega
    · omega
    · simp at hs; omega
    · omega
    · omega
  · exact h.get (i := 1) (s := 200) (by rfl)
def ctLarge : Ctr := fun ds Q _ => ∃ (wide : Nat) (row : List Int), ds = [.lst (row.map D.int), dN wide] ∧ 1 ≤ wide ∧ wide ≤ 8 ∧ Bd row ([4, 200] ++ (List.replicate wide [7, 300]).flatten ++ [12, 12]) ∧ ∀ f, Wf wide f → f.length ≤ 300 → Q (true, dL f)
theorem atI_neg {α : Type} {xs : List α} {n k : Nat} (h : xs.length = n + k) (hk : 0 < k) : L2.atI xs (-(k : Int)) = xs[n]? := by
  unfold L2.atI L2.ixN
  rw [if_neg (by omega), if_pos (by omega)]
  show xs[(-(k : Int) + (xs.length : Int)).toNat]? = _
  rw [show (-(k : Int) + (xs.length : Int)).toNat = n by omega]
theorem b_large {G : Str → Option (Nat × Ctr)} : Body G 8 c_law_large ctLarge := by
  rintro ds Q E ⟨wide, row, rfl, w1, w8, hb, hQ⟩
  obtain ⟨hl, hp, x1, hx1, p1, p2⟩ := RowL hb
  have at_ : ∀ (i : Int) (k : Nat), i = (k : Int) → k < 4 + 2 * wide → ∃ x : Int, L2.atI (row.map D.int) i = some (.int x) ∧ 0 ≤ x ∧ x < 300 := fun i k e h => by
    subst e
    have hk : k < row.length := by omega
    exact ⟨row[k], atI_get (by simp [hk]), hp _ (List.getElem_mem hk)⟩
  have neg_ : ∀ k : Nat, 0 < k → k ≤ 2 → ∃ x : Int, L2.atI (row.map D.int) (-(k : Int)) = some (.int x) ∧ 0 ≤ x ∧ x < 300 := fun k h1 h2 => by
    have hk : row.length - k < row.length := by omega
    refine ⟨row[row.length - k], ?_, hp _ (List.getElem_mem hk)⟩
    rw [atI_neg (n := row.length - k) (k := k) (by rw [List.length_map]; omega) h1, List.getElem?_map, List.getElem?_eq_getElem hk]; rfl
  have hx1' : L2.atI (row.map D.int) 1 = some (.int x1) := atI_get (n := 1) (by rw [List.getElem?_map, hx1]; rfl)
  obtain ⟨x0, hx0, p3, p4⟩ := at_ 0 0 rfl (by omega)
  obtain ⟨y1, hy1, q1, q2⟩ := neg_ 1 (by omega) (by omega)
  obtain ⟨y2, hy2, q3, q4⟩ := neg_ 2 (by omega) (by omega)
  unfold c_law_large
  rw [startE_2]
  show wCs _ _ _ [some (false, .lst (row.map D.int)), some (false, dN wide), none, none, none, none, none, none] _
  rw [cs_cons']; trivial
  refine ⟨_, hx1', ?_⟩
  trivial
  refine ⟨_, hx0, ?_⟩
  trivial
  have em : ∃ many : Nat, (300 - x1) / (1 + if decide (x0 = 3) = true then 1 else 0) = (many : Int) ∧ 1 ≤ many ∧ many ≤ 300 := by
    refine ⟨((300 - x1) / (1 + if decide (x0 = 3) = true then 1 else 0)).toNat, ?_, ?_, ?_⟩ <;> split <;> omega
  obtain ⟨many, em, m1, m2⟩ := em
  rw [em]
  refine ⟨⟨by split <;> omega, by split <;> omega⟩, ?_⟩
  rw [cs_cons']; trivial
  refine ⟨by rw [size_eq]; omega, ?_⟩
  rw [cs_cons', c_for]; trivial
  rw [int_range]
  refine ⟨by omega, by omega, fun i e => ∃ (form : Form) (z4 z5 z6 : SV), form.length = i ∧ (∀ s ∈ form, Mvs wide many s.2) ∧
    e = [some (false, .lst (row.map D.int)), some (false, dN wide), some (false, dN many), some (true, .lst (form.map dSL)), z4, z5, z6, none], ⟨[], _, _, _, rfl, by simp, rfl⟩, ?_, ?_⟩
  · rintro i x e hx ⟨form, z4, z5, z6, f1, f2, rfl⟩
    have hi : i < many := by have := (List.getElem?_eq_some_iff.mp hx).1; simpa using this
    rw [List.getElem?_map, List.getElem?_range hi] at hx; cases hx
    trivial
    rw [cs_cons']; trivial
    refine ⟨_, hy1, ?_⟩
    trivial
    refine ⟨by omega, _, hy2, ?_⟩
    trivial
    refine ⟨_, hy1, ?_⟩
    trivial
    refine ⟨by omega, ?_⟩
    generalize decide ((i : Int) % (2 + y1) = y2 % (2 + y1)) = b
    rw [cs_cons']; trivial
    refine mvs_rng (s := 1) (sd := 7) (many := many) w8 rfl rfl (fun j hj => ?_) fun l ml => ?_
    · obtain ⟨xa, ha, a1, a2⟩ := at_ (2 + 2 * (j : Int)) (2 + 2 * j) (by omega) (by omega)
      obtain ⟨xb, hb, b1, b2⟩ := at_ (3 + 2 * (j : Int)) (3 + 2 * j) (by omega) (by omega)
      refine ⟨(xa * (i : Int) + xb) % many, Int.emod_nonneg _ (by omega), Int.emod_lt_of_pos _ (by omega), fun P hP => ?_⟩
      trivial
      refine ⟨.inl ⟨by omega, by omega⟩, _, ha, ?_⟩
      trivial
      refine ⟨.inr ⟨by omega, by omega⟩, .inl ⟨by omega, by omega⟩, _, hb, ?_⟩
      trivial
      exact ⟨by omega, hP _⟩
    trivial
    refine ite_to (fun e => ∃ (b : Bool) (l : List Nat), Mvs wide many l ∧ e = [some (false, .lst (row.map D.int)), some (false, dN wide), some (false, dN many), some (true, .lst (form.map dSL)), some (false, dN i), some (false, .bl b), some (true, .lst (l.map dN)), none]) ?_ ?_
    case refine_2 =>
      intro hr
      trivial
      refine ⟨_, hx0, ?_⟩
      trivial
      by_cases q : x0 = 3
      · rw [if_pos (by simp; omega), cs_cons']; trivial
        rw [cs_cons']; trivial
        refine mvs_rng (s := 1) (sd := 7) (many := many) w8 rfl rfl (fun j hj => ⟨if (many : Int) - 1 < (i : Int) + (j : Int) then (many : Int) - 1 else (i : Int) + (j : Int), by split <;> omega, by split <;> omega, fun P hP => ?_⟩) fun l ml => ?_
        · trivial
          exact hP _
        · trivial
          exact hr _ ⟨_, l, ml, rfl⟩
      · rw [if_neg (by simp; omega)]
        exact hr _ ⟨b, l, ml, rfl⟩
    clear ml l b
    rintro e ⟨b, l, ml, rfl⟩
    rw [cs_cons']; trivial
    refine ⟨by rw [size_eq]; omega, True.intro, by rw [List.length_map, size_eq]; omega, form ++ [(b, l)], some (false, dN i), some (false, .bl b), some (false, .lst (l.map dN)), by simp [f1], fun s hs => ?_, ?_⟩
    · rcases List.mem_append.mp hs with h | h
      · exact f2 s h
      · rw [List.mem_singleton] at h; subst h; exact ml
    · rw [List.map_append]; rfl
  · rintro e ⟨form, z4, z5, z6, f1, f2, rfl⟩
    rw [List.length_map, List.length_range] at f1
    rw [cs_cons']; trivial
    refine hQ form ⟨by omega, fun s hs => (f2 s hs).len, fun s hs m hm => ?_⟩ (by omega)
    rw [f1]; exact (f2 s hs).lt m hm
end Vi
set_option Elab.async false
set_option linter.all false
set_option maxRecDepth 100000
/-! FmN: the law of least forms: the law itself. -/
namespace Vi
open PySem
local macro_rules | `(tactic| trivial) => `(tactic| simp only [w_var, w_non, w_bl, w_int, w_str, w_tup, w_lst, w_bin, w_cmp, w_chain, w_neg, w_notv, w_andv, w_orv, w_ife, w_idx, w_slc, w_call, w_fn1, w_fn2, w_isi, w_isiT, w_dnew, w_dnew1, w_nil, w_cons, w_onone, w_osome, w_val, w_not, w_and, w_or, w_tnone, w_tone, w_seqO, w_rng1, w_rng2, w_vals,
  c_set, c_setT, c_setIx, c_app, c_ex, c_retV, c_retN, c_ite, c_brk, c_cont, c_pass, cs_nil', b_var, b_non, b_bl, b_int, b_str, b_tup, b_lst, b_bin, b_cmp, b_chain, b_neg, b_notv, b_andv, b_orv, b_ife, b_idx, b_slc, b_call, b_fn1, b_fn2, b_isi, b_isiT, b_lc, b_dc, b_dnew, b_dnew1,
  r_non, r_bl, r_int, r_str, r_tup, r_lst, r_bin, r_cmp, r_chain, r_neg, r_notv, r_andv, r_orv, r_ife, r_idx, r_slc, r_call, r_fn1, r_fn2, r_isi, r_isiT, r_dnew, r_dnew1,
  List.getElem?_cons_zero, List.getElem?_cons_succ, List.set_cons_zero, List.set_cons_succ, frzL, frz1, itFz, wipeE, Tg.slots, bindT, bindTs,
  o_addI, o_addT, o_addL, o_sub, o_mulI, o_mulL, o_fdiv, o_mod, o_pow, o_lt, o_le, o_gt, o_ge, o_is, o_isn, o_mem, o_nmem, o_eqI, o_neI, o_ixL, o_ixT, o_ixD, o_ixDt, o_ixDb, o_slcL, o_slcT, o_lenL, o_lenT, o_lenD, o_intI, o_intB, o_tupL, o_tupT, o_lstL, o_lstT, o_maxL, o_maxT, o_abs, o_max2, o_min2, o_tN, o_tB, o_tI, o_tL, o_tT,
  Option.some.injEq, Bool.false_eq_true, if_true, if_false, ite_true, ite_false, Bool.not_true, Bool.not_false, List.length_cons, List.length_nil])
theorem fz_n {n : Nat} (l : List Nat) : FzAll n (l.map dN) (l.map dN) := FzAll.map fun a _ => .flat rfl
theorem fz_tup {n : Nat} {l : List Nat} (h : l.length < 1024) : Fz (n + 1) (.tup (l.map dN)) (.tup (l.map dN)) := .seq rfl (by rw [List.length_map, size_eq]; omega) (fz_n l)
theorem fz_lst {n : Nat} {l : List Nat} (h : l.length < 1024) : Fz (n + 1) (.lst (l.map dN)) (.tup (l.map dN)) := .seq rfl (by rw [List.length_map, size_eq]; omega) (fz_n l)
theorem fz_shp {wide : Nat} {f : Form} (F : Wf wide f) (S : Small wide f) (n : Nat) : Fz 3 (shp n f) (dF f) := by
  have hw := S.w
  have hn := S.n
  have sz : (2 : Nat) < sizeLine := by rw [size_eq]; omega
  have sf : f.length < sizeLine := by rw [size_eq]; omega
  have hl : ∀ s ∈ f, s.2.length < 1024 := fun s hs => by rw [F.ww s hs]; exact hw
  have a1 : ∀ s ∈ f, Fz 2 (dS s) (dS s) := fun s hs => .seq rfl sz (.cons (.flat rfl) (.cons (fz_tup (hl s hs)) .nil))
  have a2 : ∀ s ∈ f, Fz 2 (dSL s) (dS s) := fun s hs => .seq rfl sz (.cons (.flat rfl) (.cons (fz_lst (hl s hs)) .nil))
  have a3 : ∀ s ∈ f, Fz 2 (dST s) (dS s) := fun s hs => .seq rfl sz (.cons (.flat rfl) (.cons (fz_tup (hl s hs)) .nil))
  have a4 : ∀ s ∈ f, Fz 2 (dSM s) (dS s) := fun s hs => .seq rfl sz (.cons (.flat rfl) (.cons (fz_lst (hl s hs)) .nil))
  unfold shp
  split
  · exact .seq rfl (by rw [List.length_map]; exact sf) (FzAll.map a1)
  · split
    · exact .seq rfl (by rw [List.length_map]; exact sf) (FzAll.map a2)
    · split
      · exact .seq rfl (by rw [List.length_map]; exact sf) (FzAll.map a3)
      · exact .seq rfl (by rw [List.length_map]; exact sf) (FzAll.map a4)
/-- data that is == itself -/
def Se (n : Nat) (d : D) : Prop := ∃ q, py d = some q ∧ q.canLay0 = true ∧ q.depth ≤ n ∧ PyData.eqv q q = true
def SeAll (n : Nat) (ds : List D) : Prop := ∃ qs, pys ds = some qs ∧ PyData.canLayAll0 qs = true ∧ PyData.depthAll qs ≤ n ∧ PyData.eqvAll qs qs = true
theorem SeAll.of {n : Nat} : ∀ {ds : List D}, (∀ d ∈ ds, Se n d) → SeAll n ds
  | [], _ => ⟨[], rfl, by simp [PyData.canLayAll0], by simp [PyData.depthAll], by simp [PyData.eqvAll]⟩
  | d :: ds, h => by
    obtain ⟨q, h1, h2, h3, h4⟩ := h d List.mem_cons_self
    obtain ⟨qs, g1, g2, g3, g4⟩ := SeAll.of fun x hx => h x (List.mem_cons_of_mem d hx)
    refine ⟨q :: qs, ?_, by simp [PyData.canLayAll0, h2, g2], by simp only [PyData.depthAll]; omega, by simp [PyData.eqvAll, h4, g4]⟩
    show (py d).bind (fun k => (pys ds).map fun ks => k :: ks) = _
    rw [h1, g1]; rfl
theorem Se.tup {n : Nat} {ds : List D} (h : ∀ d ∈ ds, Se n d) : Se (n + 1) (.tup ds) := by
  obtain ⟨qs, g1, g2, g3, g4⟩ := SeAll.of h
  refine ⟨.tuple qs, ?_, by simp only [PyData.canLay0]; exact g2, by simp only [PyData.depth]; omega, by simp only [PyData.eqv]; exact g4⟩
  show (pys ds).map _ = _
  rw [g1]; rfl
theorem Se.lst {n : Nat} {ds : List D} (h : ∀ d ∈ ds, Se n d) : Se (n + 1) (.lst ds) := by
  obtain ⟨qs, g1, g2, g3, g4⟩ := SeAll.of h
  refine ⟨.list qs, ?_, by simp only [PyData.canLay0]; exact g2, by simp only [PyData.depth]; omega, by simp only [PyData.eqv]; exact g4⟩
  show (pys ds).map _ = _
  rw [g1]; rfl
theorem Se.n {n k : Nat} : Se n (dN k) := ⟨.int k, rfl, by simp [PyData.canLay0], by simp [PyData.depth], by simp [PyData.eqv]⟩
theorem Se.bl {n : Nat} {b : Bool} : Se n (.bl b) := ⟨.bool b, rfl, by simp [PyData.canLay0], by simp [PyData.depth], by simp [PyData.eqv]⟩
theorem Se.nt {n : Nat} {l : List Nat} : Se (n + 1) (.tup (l.map dN)) := .tup fun d hd => by obtain ⟨k, _, rfl⟩ := List.mem_map.mp hd; exact .n
theorem Se.nl {n : Nat} {l : List Nat} : Se (n + 1) (.lst (l.map dN)) := .lst fun d hd => by obtain ⟨k, _, rfl⟩ := List.mem_map.mp hd; exact .n
theorem Se.eq {n : Nat} {d : D} (h : Se n d) (hn : n ≤ 64) : deq d d = some true := by
  obtain ⟨q, h1, h2, h3, h4⟩ := h
  have hs : SeqAt.shaped q = true := by
    unfold SeqAt.shaped
    rw [h2, Bool.true_and]
    exact decide_eq_true (by omega)
  unfold deq
  rw [h1]
  show (if SeqAt.shaped q = true ∧ SeqAt.shaped q = true then some (PyData.eqv q q) else none) = some true
  rw [if_pos ⟨hs, hs⟩, h4]
theorem se_shp {f : Form} {n : Nat} : Se 3 (shp n f) := by
  have two : ∀ {a b : D} {m : Nat}, Se m a → Se m b → ∀ d ∈ [a, b], Se m d := fun {a b m} h1 h2 d hd => by
    simp only [List.mem_cons, List.not_mem_nil, or_false] at hd
    rcases hd with rfl | rfl
    · exact h1
    · exact h2
  have mp : ∀ {g : (Bool × List Nat) → D}, (∀ s, Se 2 (g s)) → ∀ d ∈ f.map g, Se 2 d := fun {g} h d hd => by
    obtain ⟨s, _, rfl⟩ := List.mem_map.mp hd
    exact h s
  unfold shp
  split
  · exact .tup (mp fun s => .tup (two .bl .nt))
  · split
    · exact .lst (mp fun s => .lst (two .bl .nl))
    · split
      · exact .tup (mp fun s => .lst (two .bl .nt))
      · exact .lst (mp fun s => .tup (two .bl .nl))
def ctLaw : Ctr := fun ds Q _ => ∃ xs : List Int, ds = [.lst (xs.map D.int)] ∧ xs.length < sizeLine ∧ Q (false, .bl true)
theorem b_law {G : Str → Option (Nat × Ctr)} (gD : G "_law_digits" = some (2, ctDigits)) (gC : G "_law_cell" = some (2, ctCell)) (gF : G "_law_form" = some (2, ctForm)) (gS : G "_law_sizes" = some (2, ctSizes)) (gL : G "_law_large" = some (2, ctLarge)) (gM : G "_law_machine" = some (1, ctMachine)) (gH : G "_law_shaped" = some (2, ctShaped)) (gT : G "least_form" = some (2, ctLeast)) (gI : G "_law_is_least" = some (3, ctIsLeast)) : Body G 13 c_law ctLaw := by
  rintro ds Q E ⟨xs, rfl, hxs, hQ⟩
  unfold c_law
  rw [startE_1]
  show wCs _ _ _ [some (false, .lst (xs.map D.int)), none, none, none, none, none, none, none, none, none, none, none, none] _
  rw [cs_cons']; trivial
  refine ⟨_, gD, _, gC, rfl, xs, 0, rfl, by omega, by omega, hxs, fun v => ?_⟩
  refine ⟨by rw [size_eq]; omega, rfl, v, [6, 24, 4], rfl, by simp, by simp, fun row hb => ?_⟩
  dsimp only
  obtain ⟨h0, h1, h2, rfl, b0, b1, b2⟩ : ∃ h0 h1 h2 : Int, row = [h0, h1, h2] ∧ (0 ≤ h0 ∧ h0 < 6) ∧ (0 ≤ h1 ∧ h1 < 24) ∧ (0 ≤ h2 ∧ h2 < 4) := by
    cases hb with
    | cons a0 a1 t => cases t with
      | cons a2 a3 t => cases t with
        | cons a4 a5 t => cases t with
          | nil => exact ⟨_, _, _, rfl, ⟨a0, a1⟩, ⟨a2, a3⟩, ⟨a4, a5⟩⟩
  have i0 : L2.atI ([h0, h1, h2].map D.int) 0 = some (.int h0) := rfl
  have i1 : L2.atI ([h0, h1, h2].map D.int) 1 = some (.int h1) := rfl
  have i2 : L2.atI ([h0, h1, h2].map D.int) 2 = some (.int h2) := rfl
  generalize [h0, h1, h2].map D.int = head at i0 i1 i2
  rw [cs_cons']; trivial
  obtain ⟨w, hw, w1, w2⟩ := tab (P := fun v => 1 ≤ v ∧ v ≤ 3) [1, 1, 1, 2, 2, 3] (by decide) (y := h0) (by omega) (by show h0 < 6; omega)
  refine ⟨by rw [size_eq]; omega, _, i0, ?_⟩
  trivial
  refine ⟨.int w, hw, ?_⟩
  rw [cs_cons']; trivial
  obtain ⟨wd, hwd, d1, d2⟩ := tab (P := fun v => 1 ≤ v ∧ v ≤ 8) [2, 4, 8] (by decide) (y := w - 1) (by omega) (by show w - 1 < 3; omega)
  refine ⟨by rw [size_eq]; omega, .int wd, hwd, ?_⟩
  obtain ⟨wide, rfl⟩ := Int.eq_ofNat_of_zero_le (show 0 ≤ wd by omega)
  rw [cs_cons']; trivial
  obtain ⟨up, hup, u1, u2⟩ := tab (P := fun v => 1 ≤ v ∧ v ≤ 300) [8, 32] (by decide) (y := if decide (h1 < 4) = true then 1 else 0) (by split <;> omega) (by show _ < (2 : Int); split <;> omega)
  refine ⟨by rw [size_eq]; omega, _, i1, ?_⟩
  trivial
  refine ⟨.int up, hup, ?_⟩
  obtain ⟨upto, rfl⟩ := Int.eq_ofNat_of_zero_le (show 0 ≤ up by omega)
  refine ite_to (fun e => ∃ upto : Nat, 1 ≤ upto ∧ upto ≤ 300 ∧ e = [some (false, .lst (xs.map D.int)), some (true, .lst head), some (false, .int w), some (false, dN wide), some (false, dN upto), none, none, none, none, none, none, none, none]) ?_ ?_
  case refine_2 =>
    intro hr
    trivial
    refine ⟨_, i1, ?_⟩
    trivial
    by_cases q : h1 = 11
    · rw [if_pos (by simp; omega), cs_cons']; trivial
      exact hr _ ⟨300, by omega, by omega, rfl⟩
    · rw [if_neg (by simp; omega)]
      exact hr _ ⟨upto, by omega, by omega, rfl⟩
  clear hup u1 u2 upto
  rintro e ⟨upto, u1, u2, rfl⟩
  have rk : ∀ {up : Nat} {row : List Int}, Bd row (szs wide up) → RowOk row (2 + up * (wide + 1)) := fun {up row} b => ⟨by rw [b.length, szs_len], b.le840 szs_le⟩
  have szl : ∀ {up : Nat}, up ≤ 300 → (szs wide up).length < 2 ^ 20 := fun {up} h => by
    rw [szs_len]
    have := Nat.mul_le_mul h (show wide + 1 ≤ 9 by omega)
    omega
  rw [cs_cons']; trivial
  refine ⟨_, gF, _, gD, _, gC, rfl, xs, 1, rfl, by omega, by omega, hxs, fun v => ?_⟩
  refine ⟨_, gS, rfl, wide, upto, rfl, by omega, by omega, ?_⟩
  refine ⟨rfl, v, _, rfl, szs_pos, szl u2, fun row hb => ?_⟩
  refine ⟨rfl, wide, upto, row, rfl, by omega, by omega, u1, u2, rk hb, fun f0 F0 n0 => ?_⟩
  refine ⟨by rw [size_eq]; omega, ?_⟩
  rw [cs_cons', c_for]; trivial
  refine ⟨by omega, by omega, fun i e => ∃ (fs : List Form) (z6 : SV), fs.length = 1 + i ∧ (∀ f ∈ fs, Wf wide f ∧ f.length ≤ 300) ∧ e = [some (false, .lst (xs.map D.int)), some (true, .lst head), some (false, .int w), some (false, dN wide), some (false, dN upto), some (true, .lst (fs.map dL)), z6, none, none, none, none, none, none], ⟨[f0], _, rfl, by simp; exact ⟨F0, n0⟩, rfl⟩, ?_, ?_⟩
  · rintro i x e hx ⟨fs, z6, l1, l2, rfl⟩
    have hi : i < 2 := by have := (List.getElem?_eq_some_iff.mp hx).1; simpa using this
    rw [List.getElem?_map, List.getElem?_range (by simpa using hi)] at hx; cases hx
    trivial
    rw [cs_cons']; trivial
    refine ⟨_, gF, _, gD, _, gC, rfl, xs, 2 + (i : Int), rfl, by omega, by omega, hxs, fun v => ?_⟩
    refine ⟨_, gS, rfl, wide, 8, rfl, by omega, by omega, ?_⟩
    refine ⟨rfl, v, _, rfl, szs_pos, szl (by omega), fun row hb => ?_⟩
    refine ⟨rfl, wide, 8, row, rfl, by omega, by omega, by omega, by omega, rk hb, fun f1 F1 n1 => ?_⟩
    refine ⟨True.intro, by rw [List.length_map, size_eq]; omega, fs ++ [f1], some (false, dN i), by simp [l1]; omega, fun f hf => ?_, ?_⟩
    · rcases List.mem_append.mp hf with h | h
      · exact l2 f h
      · rw [List.mem_singleton] at h; subst h; exact ⟨F1, n1⟩
    · rw [List.map_append]; rfl
  rintro e ⟨fs, z6, l1, l2, rfl⟩
  have l3 : fs.length = 3 := by simpa using l1
  clear l1
  refine ite_to (fun e => ∃ fs : List Form, fs.length = 3 ∧ (∀ f ∈ fs, Wf wide f ∧ f.length ≤ 300) ∧ e = [some (false, .lst (xs.map D.int)), some (true, .lst head), some (false, .int w), some (false, dN wide), some (false, dN upto), some (true, .lst (fs.map dL)), z6, none, none, none, none, none, none]) ?_ ?_
  case refine_2 =>
    intro hr
    trivial
    refine ⟨_, i1, ?_⟩
    trivial
    by_cases q : h1 = 7
    · rw [if_pos (by simp; omega), cs_cons']; trivial
      refine ⟨_, gL, _, gD, _, gC, rfl, xs, 4, rfl, by omega, by omega, hxs, fun v => ?_⟩
      rw [Int.toNat_natCast]
      have hfl := flat_len [D.int 7, D.int 300] wide
      refine ⟨by rw [size_eq]; omega, by rw [size_eq]; omega, by omega, by omega, by simp [size_eq]; omega, by rw [hfl]; simp [size_eq]; omega, by rw [size_eq]; omega, by rw [List.length_append, hfl]; simp [size_eq]; omega, ?_⟩
      refine ⟨rfl, v, [4, 200] ++ (List.replicate wide [7, 300]).flatten ++ [12, 12], ?_, ?_, ?_, fun row hb => ?_⟩
      · simp [List.map_flatten]
      · intro s hs
        simp only [List.mem_append, List.mem_cons, List.mem_flatten, List.mem_replicate, List.not_mem_nil, or_false] at hs
        rcases hs with ((rfl | rfl) | ⟨l, ⟨_, rfl⟩, hs⟩) | (rfl | rfl) <;> first | omega | (simp at hs; omega)
      · rw [List.length_append, List.length_append, flat_len]; simp; omega
      · refine ⟨rfl, wide, row, rfl, by omega, by omega, hb, fun f F n => ?_⟩
        refine ⟨⟨_, rfl⟩, 0, ixN_nat (k := 0) (by rw [List.length_map]; omega), ?_⟩
        refine hr _ ⟨fs.set 0 f, by rw [List.length_set]; exact l3, fun g hg => ?_, by rw [List.map_set]⟩
        rcases List.mem_or_eq_of_mem_set hg with h | h
        · exact l2 g h
        · subst h; exact ⟨F, n⟩
    · rw [if_neg (by simp; omega)]
      exact hr _ ⟨fs, l3, l2, rfl⟩
  clear l3 l2 fs
  rintro e ⟨fs, l3, l2, rfl⟩
  rw [cs_cons', c_for]; trivial
  refine ⟨by omega, by omega, fun i e => ∃ (z7 z8 z9 z10 z11 z12 : SV), e = [some (false, .lst (xs.map D.int)), some (true, .lst head), some (false, .int w), some (false, dN wide), some (false, dN upto), some (true, .lst (fs.map dL)), z6, z7, z8, z9, z10, z11, z12], ⟨_, _, _, _, _, _, rfl⟩, ?_, ?_⟩
  · rintro i x e hx ⟨z7, z8, z9, z10, z11, z12, rfl⟩
    have hi : i < 5 := by have := (List.getElem?_eq_some_iff.mp hx).1; simpa using this
    rw [List.getElem?_map, List.getElem?_range (by simpa using hi)] at hx; cases hx
    trivial
    rw [cs_cons']; trivial
    obtain ⟨t, ht, t1, t2⟩ := tab (P := fun v => 0 ≤ v ∧ v < 3) [1, 2, 0, 1, 2] (by decide) (y := (i : Int)) (by omega) (by show (i : Int) < 5; omega)
    obtain ⟨t, rfl⟩ := Int.eq_ofNat_of_zero_le t1
    have ht3 : t < fs.length := by omega
    refine ⟨by rw [size_eq]; omega, .int t, ht, ?_⟩
    trivial
    refine ⟨dL fs[t], atI_get (by simp [ht3]), ?_⟩
    obtain ⟨F, n3⟩ := l2 _ (List.getElem_mem ht3)
    generalize fs[t] = f at F n3
    have S : Small wide f := ⟨by omega, by omega⟩
    have S1 : Small wide (withStart f) := ⟨by rw [ws_len]; omega, by omega⟩
    have W1 := ws_wf F (show 1 ≤ wide by omega)
    rw [cs_cons']; trivial
    refine ⟨_, i2, ?_⟩
    trivial
    refine ⟨⟨by omega, by omega⟩, .inr ⟨by omega, by omega⟩, by omega, ?_⟩
    obtain ⟨n, hn⟩ := Int.eq_ofNat_of_zero_le (show 0 ≤ (h2 + (i : Int) + 2 * ((i : Int) / 3)) % 4 by omega)
    have hn4 : n < 4 := by omega
    rw [hn]
    rw [cs_cons']; trivial
    refine ⟨_, gM, rfl, wide, f, rfl, F, S1, by omega, ?_⟩
    dsimp only
    rw [cs_cons']; trivial
    refine ⟨_, gH, rfl, wide, f, n, rfl, F, S, hn4, fun o => ?_⟩
    dsimp only
    rw [cs_cons']; trivial
    refine ⟨_, gT, rfl, wide, f, _, _, rfl, fz_shp F S n, F, S1, by omega, fun t L => ?_⟩
    dsimp only
    have tl := L.len W1
    rw [ws_len] at tl
    have T := L.wf
    have ST1 : Small wide (withStart t) := ⟨by rw [ws_len]; omega, by omega⟩
    have hML : (withStart f).length < 4000 := by rw [ws_len]; omega
    refine ite_to (fun e => e = [some (false, .lst (xs.map D.int)), some (true, .lst head), some (false, .int w), some (false, dN wide), some (false, dN upto), some (true, .lst (fs.map dL)), z6, some (false, dN i), some (false, dL f), some (false, dN n), some (false, dMa (withStart f)), some (false, shp n f), some (false, dF t)]) ?_ ?_
    case refine_2 =>
      intro hr
      rw [c_ite, w_or, w_val]; trivial
      refine ⟨_, gH, rfl, wide, f, n, rfl, F, S, hn4, fun o2 => ?_⟩
      refine ⟨true, (se_shp (f := f) (n := n)).eq (by omega), ?_⟩
      trivial
      refine ⟨_, gI, rfl, wide, withStart f, t, rfl, W1, S1, hML, by omega, L, L.zero F (by omega), ?_⟩
      trivial
      exact hr _ rfl
    rintro e rfl
    refine ite_to (fun e => ∃ (z7 z8 z9 z10 z11 z12 : SV), e = [some (false, .lst (xs.map D.int)), some (true, .lst head), some (false, .int w), some (false, dN wide), some (false, dN upto), some (true, .lst (fs.map dL)), z6, z7, z8, z9, z10, z11, z12]) (fun e h => h) ?_
    intro hr
    trivial
    rw [o_lenF]
    trivial
    by_cases q : t.length ≤ 300
    · rw [if_pos (by simp; omega)]
      refine ⟨_, gI, _, gT, rfl, wide, t, _, _, rfl, fz_shp T ⟨by omega, by omega⟩ 0, T, ST1, by omega, fun t2 L2 => ?_⟩
      have L3 := L.again F (by omega) L2
      refine ⟨rfl, wide, withStart f, t2, rfl, W1, S1, hML, by omega, L3, L3.zero F (by omega), ?_⟩
      trivial
      exact ⟨_, _, _, _, _, _, rfl⟩
    · rw [if_neg (by simp; omega)]
      exact ⟨_, _, _, _, _, _, rfl⟩
  · rintro e ⟨z7, z8, z9, z10, z11, z12, rfl⟩
    rw [cs_cons']; trivial
    exact hQ
end Vi
set_option Elab.async false
set_option linter.all false
set_option maxRecDepth 100000
set_option maxHeartbeats 0
namespace Vi
open PySem PySem.Spec PyProof.Rows L2
/-! ### the head -/
/-- an object that is a list -/
def isL (o : Obj) : Bool := match o.cls with
  | .type c => decide (c = "list")
  | _ => false
def noL (g : Addr → Option Obj) (a : Addr) : Option Obj := match g a with
  | some o => if isL o = true then none else some o
  | none => none
theorem noL_ok {g : Addr → Option Obj} {a : Addr} {o : Obj} (h : noL g a = some o) : g a = some o ∧ o.cls ≠ .type "list" := by
  unfold noL at h
  cases e : g a with
  | none => rw [e] at h; cases h
  | some ob =>
    rw [e] at h
    dsimp only at h
    split at h
    · cases h
    · rename_i hn
      cases h
      refine ⟨rfl, fun z => hn ?_⟩
      unfold isL
      rw [z]
      exact decide_eq_true rfl
/-- what the top leaves, its lists left out -/
def hookN (n : Nat) (fa : List He.Fa) (fn : List He.DefD) : PySem.W.Hook where
  α := He.AlD
  obs := fun s => He.obsDG n fa fn (noL s.heap.get?)
  val := fun _ => He.valD fn
  says := fun _ h => ∃ K : PySem.W.Frag, K.In h ∧ He.SaysD fa fn K ∧ ∀ a o, K.lookup a = some o → o.cls ≠ .type "list"
  of := fun _ s e => ⟨_, fun a o q => (noL_ok (He.frG_at _ q)).1, e, fun a o q => (noL_ok (He.frG_at _ q)).2⟩
  keeps := fun _ _ _ ⟨K, hK, c, n⟩ k => ⟨K, PySem.W.Frag.In.keeps hK k, c, n⟩
def dOf (p : Str × Nat) : He.DefD := ⟨(p.1, none), p.1, p.1, defArgs (top p.2), defBody (top p.2), defScope (top p.2), [], []⟩
def fn : List He.DefD := [dOf ("frozen", 1), dOf ("with_start", 5), dOf ("met_states", 6), dOf ("renumbered", 7), dOf ("numbered", 10), dOf ("split_classes", 9), dOf ("like_classes", 8), dOf ("joined", 11), dOf ("least_of", 4), dOf ("least_form", 3), dOf ("_law_whole", 13), dOf ("_law_cell", 14), dOf ("_law_digits", 15), dOf ("_law_sizes", 16), dOf ("_law_form", 17), dOf ("_law_large", 18), dOf ("_law_shaped", 19), dOf ("_law_machine", 20), dOf ("_law_counted", 21), dOf ("_law_apart", 22), dOf ("_law_walked", 23), dOf ("_law_is_least", 24), dOf ("law", 25)]
def fa : List He.Fa := [.free "len", .free "int", .free "tuple", .free "list", .free "max", .free "min", .free "abs", .free "isinstance", .free "range", .free "bool", .free "str", .free "dict", .glo "frozen", .glo "with_start", .glo "met_states", .glo "renumbered", .glo "numbered", .glo "split_classes", .glo "like_classes", .glo "joined", .glo "least_of", .glo "least_form", .glo "_law_whole", .glo "_law_cell", .glo "_law_digits", .glo "_law_sizes", .glo "_law_form", .glo "_law_large", .glo "_law_shaped", .glo "_law_machine", .glo "_law_counted", .glo "_law_apart", .glo "_law_walked", .glo "_law_is_least", .glo "law"]
abbrev RR : PySem.W.OpenRow := PySem.W.OpenLaw.row PySem.Challenge.rw_halvedloads_k51_least_form
abbrev hk : PySem.W.Hook := hookN 4 fa fn
def ob (s : PySem.W.SharedT) : He.AlD := He.obsDG 4 fa fn (noL (HandSHeadRun.getT s))
theorem ob_eq (s : PySem.W.SharedT) : ob s = hk.obs s.abs := by
  show He.obsDG 4 fa fn (noL (HandSHeadRun.getT s)) = He.obsDG 4 fa fn (noL s.abs.heap.get?)
  rw [show HandSHeadRun.getT s = s.abs.heap.get? from funext fun a => HandSHeadRun.getT_eq s a]
theorem run_ok (w : World) : HandSHeadRun.RunEq RR (PySem.W.view RR.prog [25]) hk ob 2000 ["frozen", "least_form", "least_of", "with_start", "met_states", "renumbered", "like_classes", "split_classes", "numbered", "joined", "_law_whole", "_law_cell", "_law_digits", "_law_sizes", "_law_form", "_law_large", "_law_shaped", "_law_machine", "_law_counted", "_law_apart", "_law_walked", "_law_is_least"] w := by
  intro os
  kernel_rfl
theorem facts {P : Program} {w : World} {K : PySem.W.Frag} {h : Heap} {mg : Str → Option Value} {f : Addr} (X : K.In h) (Gh : h.Ns mainGlobals mg) (hfa : mg ("law" : Str) = some (.ref f)) (c : He.SaysD fa fn K) :
    ∃ fd : FuncData, (∀ (s : Shared) (v : Value), BindsTo s fd ⟨[v], []⟩ [("script", v)]) ∧ ∀ base : Heap, K.In base → base.Ns mainGlobals mg → FnOk P w K mg base CX0 6 f fd ["script"] (spOf w 1 ctLaw) := by
  obtain ⟨d_frozen, F_frozen⟩ := c.def_ 0 (d := dOf ("frozen", 1)) rfl
  obtain ⟨d_with_start, F_with_start⟩ := c.def_ 1 (d := dOf ("with_start", 5)) rfl
  obtain ⟨d_met_states, F_met_states⟩ := c.def_ 2 (d := dOf ("met_states", 6)) rfl
  obtain ⟨d_renumbered, F_renumbered⟩ := c.def_ 3 (d := dOf ("renumbered", 7)) rfl
  obtain ⟨d_numbered, F_numbered⟩ := c.def_ 4 (d := dOf ("numbered", 10)) rfl
  obtain ⟨d_split_classes, F_split_classes⟩ := c.def_ 5 (d := dOf ("split_classes", 9)) rfl
  obtain ⟨d_like_classes, F_like_classes⟩ := c.def_ 6 (d := dOf ("like_classes", 8)) rfl
  obtain ⟨d_joined, F_joined⟩ := c.def_ 7 (d := dOf ("joined", 11)) rfl
  obtain ⟨d_least_of, F_least_of⟩ := c.def_ 8 (d := dOf ("least_of", 4)) rfl
  obtain ⟨d_least_form, F_least_form⟩ := c.def_ 9 (d := dOf ("least_form", 3)) rfl
  obtain ⟨d_law_whole, F_law_whole⟩ := c.def_ 10 (d := dOf ("_law_whole", 13)) rfl
  obtain ⟨d_law_cell, F_law_cell⟩ := c.def_ 11 (d := dOf ("_law_cell", 14)) rfl
  obtain ⟨d_law_digits, F_law_digits⟩ := c.def_ 12 (d := dOf ("_law_digits", 15)) rfl
  obtain ⟨d_law_sizes, F_law_sizes⟩ := c.def_ 13 (d := dOf ("_law_sizes", 16)) rfl
  obtain ⟨d_law_form, F_law_form⟩ := c.def_ 14 (d := dOf ("_law_form", 17)) rfl
  obtain ⟨d_law_large, F_law_large⟩ := c.def_ 15 (d := dOf ("_law_large", 18)) rfl
  obtain ⟨d_law_shaped, F_law_shaped⟩ := c.def_ 16 (d := dOf ("_law_shaped", 19)) rfl
  obtain ⟨d_law_machine, F_law_machine⟩ := c.def_ 17 (d := dOf ("_law_machine", 20)) rfl
  obtain ⟨d_law_counted, F_law_counted⟩ := c.def_ 18 (d := dOf ("_law_counted", 21)) rfl
  obtain ⟨d_law_apart, F_law_apart⟩ := c.def_ 19 (d := dOf ("_law_apart", 22)) rfl
  obtain ⟨d_law_walked, F_law_walked⟩ := c.def_ 20 (d := dOf ("_law_walked", 23)) rfl
  obtain ⟨d_law_is_least, F_law_is_least⟩ := c.def_ 21 (d := dOf ("_law_is_least", 24)) rfl
  obtain ⟨d_law, F_law⟩ := c.def_ 22 (d := dOf ("law", 25)) rfl
  have e := hfa.symm.trans (He.glo_ok X Gh (c.fact 34 (f := .glo "law") rfl))
  cases e
  have hfree : ∀ x ∈ bnames, mg x = none := by
    intro x hx
    simp only [bnames, List.mem_cons, List.not_mem_nil, or_false] at hx
    rcases hx with rfl | rfl | rfl | rfl | rfl | rfl | rfl | rfl | rfl | rfl | rfl | rfl
    · exact He.free_ok X Gh (c.fact 0 (f := .free "len") rfl)
    · exact He.free_ok X Gh (c.fact 1 (f := .free "int") rfl)
    · exact He.free_ok X Gh (c.fact 2 (f := .free "tuple") rfl)
    · exact He.free_ok X Gh (c.fact 3 (f := .free "list") rfl)
    · exact He.free_ok X Gh (c.fact 4 (f := .free "max") rfl)
    · exact He.free_ok X Gh (c.fact 5 (f := .free "min") rfl)
    · exact He.free_ok X Gh (c.fact 6 (f := .free "abs") rfl)
    · exact He.free_ok X Gh (c.fact 7 (f := .free "isinstance") rfl)
    · exact He.free_ok X Gh (c.fact 8 (f := .free "range") rfl)
    · exact He.free_ok X Gh (c.fact 9 (f := .free "bool") rfl)
    · exact He.free_ok X Gh (c.fact 10 (f := .free "str") rfl)
    · exact He.free_ok X Gh (c.fact 11 (f := .free "dict") rfl)
  have g_frozen := He.glo_ok X Gh (c.fact 12 (f := .glo "frozen") rfl)
  have bi_frozen := FunD.bindsN (ps := p_frozen) F_frozen fun _ _ _ _ _ _ us hl => match us, hl with | [_], _ => rfl
  have g_with_start := He.glo_ok X Gh (c.fact 13 (f := .glo "with_start") rfl)
  have bi_with_start := FunD.bindsN (ps := p_with_start) F_with_start fun _ _ _ _ _ _ us hl => match us, hl with | [_], _ => rfl
  have g_met_states := He.glo_ok X Gh (c.fact 14 (f := .glo "met_states") rfl)
  have bi_met_states := FunD.bindsN (ps := p_met_states) F_met_states fun _ _ _ _ _ _ us hl => match us, hl with | [_], _ => rfl
  have g_renumbered := He.glo_ok X Gh (c.fact 15 (f := .glo "renumbered") rfl)
  have bi_renumbered := FunD.bindsN (ps := p_renumbered) F_renumbered fun _ _ _ _ _ _ us hl => match us, hl with | [_, _], _ => rfl
  have g_numbered := He.glo_ok X Gh (c.fact 16 (f := .glo "numbered") rfl)
  have bi_numbered := FunD.bindsN (ps := p_numbered) F_numbered fun _ _ _ _ _ _ us hl => match us, hl with | [_], _ => rfl
  have g_split_classes := He.glo_ok X Gh (c.fact 17 (f := .glo "split_classes") rfl)
  have bi_split_classes := FunD.bindsN (ps := p_split_classes) F_split_classes fun _ _ _ _ _ _ us hl => match us, hl with | [_, _], _ => rfl
  have g_like_classes := He.glo_ok X Gh (c.fact 18 (f := .glo "like_classes") rfl)
  have bi_like_classes := FunD.bindsN (ps := p_like_classes) F_like_classes fun _ _ _ _ _ _ us hl => match us, hl with | [_], _ => rfl
  have g_joined := He.glo_ok X Gh (c.fact 19 (f := .glo "joined") rfl)
  have bi_joined := FunD.bindsN (ps := p_joined) F_joined fun _ _ _ _ _ _ us hl => match us, hl with | [_, _], _ => rfl
  have g_least_of := He.glo_ok X Gh (c.fact 20 (f := .glo "least_of") rfl)
  have bi_least_of := FunD.bindsN (ps := p_least_of) F_least_of fun _ _ _ _ _ _ us hl => match us, hl with | [_], _ => rfl
  have g_least_form := He.glo_ok X Gh (c.fact 21 (f := .glo "least_form") rfl)
  have bi_least_form := FunD.bindsN (ps := p_least_form) F_least_form fun _ _ _ _ _ _ us hl => match us, hl with | [_, _], _ => rfl
  have g_law_whole := He.glo_ok X Gh (c.fact 22 (f := .glo "_law_whole") rfl)
  have bi_law_whole := FunD.bindsN (ps := p_law_whole) F_law_whole fun _ _ _ _ _ _ us hl => match us, hl with | [_], _ => rfl
  have g_law_cell := He.glo_ok X Gh (c.fact 23 (f := .glo "_law_cell") rfl)
  have bi_law_cell := FunD.bindsN (ps := p_law_cell) F_law_cell fun _ _ _ _ _ _ us hl => match us, hl with | [_, _], _ => rfl
  have g_law_digits := He.glo_ok X Gh (c.fact 24 (f := .glo "_law_digits") rfl)
  have bi_law_digits := FunD.bindsN (ps := p_law_digits) F_law_digits fun _ _ _ _ _ _ us hl => match us, hl with | [_, _], _ => rfl
  have g_law_sizes := He.glo_ok X Gh (c.fact 25 (f := .glo "_law_sizes") rfl)
  have bi_law_sizes := FunD.bindsN (ps := p_law_sizes) F_law_sizes fun _ _ _ _ _ _ us hl => match us, hl with | [_, _], _ => rfl
  have g_law_form := He.glo_ok X Gh (c.fact 26 (f := .glo "_law_form") rfl)
  have bi_law_form := FunD.bindsN (ps := p_law_form) F_law_form fun _ _ _ _ _ _ us hl => match us, hl with | [_, _], _ => rfl
  have g_law_large := He.glo_ok X Gh (c.fact 27 (f := .glo "_law_large") rfl)
  have bi_law_large := FunD.bindsN (ps := p_law_large) F_law_large fun _ _ _ _ _ _ us hl => match us, hl with | [_, _], _ => rfl
  have g_law_shaped := He.glo_ok X Gh (c.fact 28 (f := .glo "_law_shaped") rfl)
  have bi_law_shaped := FunD.bindsN (ps := p_law_shaped) F_law_shaped fun _ _ _ _ _ _ us hl => match us, hl with | [_, _], _ => rfl
  have g_law_machine := He.glo_ok X Gh (c.fact 29 (f := .glo "_law_machine") rfl)
  have bi_law_machine := FunD.bindsN (ps := p_law_machine) F_law_machine fun _ _ _ _ _ _ us hl => match us, hl with | [_], _ => rfl
  have g_law_counted := He.glo_ok X Gh (c.fact 30 (f := .glo "_law_counted") rfl)
  have bi_law_counted := FunD.bindsN (ps := p_law_counted) F_law_counted fun _ _ _ _ _ _ us hl => match us, hl with | [_], _ => rfl
  have g_law_apart := He.glo_ok X Gh (c.fact 31 (f := .glo "_law_apart") rfl)
  have bi_law_apart := FunD.bindsN (ps := p_law_apart) F_law_apart fun _ _ _ _ _ _ us hl => match us, hl with | [_], _ => rfl
  have g_law_walked := He.glo_ok X Gh (c.fact 32 (f := .glo "_law_walked") rfl)
  have bi_law_walked := FunD.bindsN (ps := p_law_walked) F_law_walked fun _ _ _ _ _ _ us hl => match us, hl with | [_, _], _ => rfl
  have g_law_is_least := He.glo_ok X Gh (c.fact 33 (f := .glo "_law_is_least") rfl)
  have bi_law_is_least := FunD.bindsN (ps := p_law_is_least) F_law_is_least fun _ _ _ _ _ _ us hl => match us, hl with | [_, _, _], _ => rfl
  have g_law := He.glo_ok X Gh (c.fact 34 (f := .glo "law") rfl)
  have bi_law := FunD.bindsN (ps := p_law) F_law fun _ _ _ _ _ _ us hl => match us, hl with | [_], _ => rfl
  refine ⟨d_law, fun s v => FunD.bindsA (ps := ["script"]) F_law (fun _ _ _ _ _ _ us hl => match us, hl with | [_], _ => rfl) s [v] rfl, fun base _ _ => ?_⟩
  have o_frozen : FnOk P w K mg base CX0 1 (He.ga K "frozen") d_frozen p_frozen (spOf w p_frozen.length (ctFrozen 0)) := def_ok (G := fun _ => none) F_frozen s_frozen k_frozen (b_frozen (n := 0) (fun m h => by cases h)) hfree fun g ct hh => nomatch hh
  have o_frozen_1 : FnOk P w K mg base CX0 2 (He.ga K "frozen") d_frozen p_frozen (spOf w p_frozen.length (ctFrozen 1)) := by
    refine def_ok (k := 1) (G := fun g => if g = ("frozen" : Str) then some (1, (ctFrozen 0)) else none) F_frozen s_frozen k_frozen (b_frozen (n := 1) (fun m hm => by cases hm; exact (by show (if _ then _ else _) = _; rw [if_pos rfl]))) hfree fun g ct hh => ?_
    split at hh
    · rename_i e; subst e; cases hh; exact ⟨_, d_frozen, _, p_frozen, g_frozen, F_frozen.kp, bi_frozen, by decide, rfl, o_frozen⟩
    · cases hh
  have o_frozen_2 : FnOk P w K mg base CX0 3 (He.ga K "frozen") d_frozen p_frozen (spOf w p_frozen.length (ctFrozen 2)) := by
    refine def_ok (k := 2) (G := fun g => if g = ("frozen" : Str) then some (1, (ctFrozen 1)) else none) F_frozen s_frozen k_frozen (b_frozen (n := 2) (fun m hm => by cases hm; exact (by show (if _ then _ else _) = _; rw [if_pos rfl]))) hfree fun g ct hh => ?_
    split at hh
    · rename_i e; subst e; cases hh; exact ⟨_, d_frozen, _, p_frozen, g_frozen, F_frozen.kp, bi_frozen, by decide, rfl, o_frozen_1⟩
    · cases hh
  have o_frozen_3 : FnOk P w K mg base CX0 4 (He.ga K "frozen") d_frozen p_frozen (spOf w p_frozen.length (ctFrozen 3)) := by
    refine def_ok (k := 3) (G := fun g => if g = ("frozen" : Str) then some (1, (ctFrozen 2)) else none) F_frozen s_frozen k_frozen (b_frozen (n := 3) (fun m hm => by cases hm; exact (by show (if _ then _ else _) = _; rw [if_pos rfl]))) hfree fun g ct hh => ?_
    split at hh
    · rename_i e; subst e; cases hh; exact ⟨_, d_frozen, _, p_frozen, g_frozen, F_frozen.kp, bi_frozen, by decide, rfl, o_frozen_2⟩
    · cases hh
  have o_with_start : FnOk P w K mg base CX0 1 (He.ga K "with_start") d_with_start p_with_start (spOf w p_with_start.length ctStart) := def_ok (G := fun _ => none) F_with_start s_with_start k_with_start (b_start) hfree fun g ct hh => nomatch hh
  have o_met_states : FnOk P w K mg base CX0 1 (He.ga K "met_states") d_met_states p_met_states (spOf w p_met_states.length ctMet) := def_ok (G := fun _ => none) F_met_states s_met_states k_met_states (b_met) hfree fun g ct hh => nomatch hh
  have o_renumbered : FnOk P w K mg base CX0 1 (He.ga K "renumbered") d_renumbered p_renumbered (spOf w p_renumbered.length ctRenum) := def_ok (G := fun _ => none) F_renumbered s_renumbered k_renumbered (b_renum) hfree fun g ct hh => nomatch hh
  have o_numbered : FnOk P w K mg base CX0 1 (He.ga K "numbered") d_numbered p_numbered (spOf w p_numbered.length ctNumbered) := def_ok (G := fun _ => none) F_numbered s_numbered k_numbered (b_numbered) hfree fun g ct hh => nomatch hh
  have o_split_classes : FnOk P w K mg base CX0 2 (He.ga K "split_classes") d_split_classes p_split_classes (spOf w p_split_classes.length ctSplit) := by
    refine def_ok (k := 1) (G := fun g => if g = ("numbered" : Str) then some (1, ctNumbered) else none) F_split_classes s_split_classes k_split_classes (b_split (by show (if _ then _ else _) = _; rw [if_pos rfl])) hfree fun g ct hh => ?_
    split at hh
    · rename_i e; subst e; cases hh; exact ⟨_, d_numbered, _, p_numbered, g_numbered, F_numbered.kp, bi_numbered, by decide, rfl, o_numbered⟩
    · cases hh
  have o_like_classes : FnOk P w K mg base CX0 3 (He.ga K "like_classes") d_like_classes p_like_classes (spOf w p_like_classes.length ctLike) := by
    refine def_ok (k := 2) (G := fun g => if g = ("numbered" : Str) then some (1, ctNumbered) else if g = ("split_classes" : Str) then some (2, ctSplit) else none) F_like_classes s_like_classes k_like_classes (b_like (by show (if _ then _ else _) = _; rw [if_pos rfl]) (by show (if _ then _ else _) = _; rw [if_neg (by decide +kernel), if_pos rfl])) hfree fun g ct hh => ?_
    split at hh
    · rename_i e; subst e; cases hh; exact ⟨_, d_numbered, _, p_numbered, g_numbered, F_numbered.kp, bi_numbered, by decide, rfl, o_numbered⟩
    split at hh
    · rename_i e; subst e; cases hh; exact ⟨_, d_split_classes, _, p_split_classes, g_split_classes, F_split_classes.kp, bi_split_classes, by decide, rfl, o_split_classes⟩
    · cases hh
  have o_joined : FnOk P w K mg base CX0 1 (He.ga K "joined") d_joined p_joined (spOf w p_joined.length ctJoined) := def_ok (G := fun _ => none) F_joined s_joined k_joined (b_joined) hfree fun g ct hh => nomatch hh
  have o_least_of : FnOk P w K mg base CX0 4 (He.ga K "least_of") d_least_of p_least_of (spOf w p_least_of.length ctLeastOf) := by
    refine def_ok (k := 3) (G := fun g => if g = ("with_start" : Str) then some (1, ctStart) else if g = ("renumbered" : Str) then some (2, ctRenum) else if g = ("met_states" : Str) then some (1, ctMet) else if g = ("joined" : Str) then some (2, ctJoined) else if g = ("like_classes" : Str) then some (1, ctLike) else none) F_least_of s_least_of k_least_of (b_leastOf (by show (if _ then _ else _) = _; rw [if_pos rfl]) (by show (if _ then _ else _) = _; rw [if_neg (by decide +kernel), if_pos rfl]) (by show (if _ then _ else _) = _; rw [if_neg (by decide +kernel), if_neg (by decide +kernel), if_pos rfl]) (by show (if _ then _ else _) = _; rw [if_neg (by decide +kernel), if_neg (by decide +kernel), if_neg (by decide +kernel), if_pos rfl]) (by show (if _ then _ else _) = _; rw [if_neg (by decide +kernel), if_neg (by decide +kernel), if_neg (by decide +kernel), if_neg (by decide +kernel), if_pos rfl])) hfree fun g ct hh => ?_
    split at hh
    · rename_i e; subst e; cases hh; exact ⟨_, d_with_start, _, p_with_start, g_with_start, F_with_start.kp, bi_with_start, by decide, rfl, o_with_start⟩
    split at hh
    · rename_i e; subst e; cases hh; exact ⟨_, d_renumbered, _, p_renumbered, g_renumbered, F_renumbered.kp, bi_renumbered, by decide, rfl, o_renumbered⟩
    split at hh
    · rename_i e; subst e; cases hh; exact ⟨_, d_met_states, _, p_met_states, g_met_states, F_met_states.kp, bi_met_states, by decide, rfl, o_met_states⟩
    split at hh
    · rename_i e; subst e; cases hh; exact ⟨_, d_joined, _, p_joined, g_joined, F_joined.kp, bi_joined, by decide, rfl, o_joined⟩
    split at hh
    · rename_i e; subst e; cases hh; exact ⟨_, d_like_classes, _, p_like_classes, g_like_classes, F_like_classes.kp, bi_like_classes, by decide, rfl, o_like_classes⟩
    · cases hh
  have o_least_form : FnOk P w K mg base CX0 5 (He.ga K "least_form") d_least_form p_least_form (spOf w p_least_form.length ctLeast) := by
    refine def_ok (k := 4) (G := fun g => if g = ("frozen" : Str) then some (1, (ctFrozen 3)) else if g = ("least_of" : Str) then some (1, ctLeastOf) else none) F_least_form s_least_form k_least_form (b_least (by show (if _ then _ else _) = _; rw [if_pos rfl]) (by show (if _ then _ else _) = _; rw [if_neg (by decide +kernel), if_pos rfl])) hfree fun g ct hh => ?_
    split at hh
    · rename_i e; subst e; cases hh; exact ⟨_, d_frozen, _, p_frozen, g_frozen, F_frozen.kp, bi_frozen, by decide, rfl, o_frozen_3⟩
    split at hh
    · rename_i e; subst e; cases hh; exact ⟨_, d_least_of, _, p_least_of, g_least_of, F_least_of.kp, bi_least_of, by decide, rfl, o_least_of⟩
    · cases hh
  have o_law_whole : FnOk P w K mg base CX0 1 (He.ga K "_law_whole") d_law_whole p_law_whole (spOf w p_law_whole.length ctWhole) := def_ok (G := fun _ => none) F_law_whole s_law_whole k_law_whole (b_whole) hfree fun g ct hh => nomatch hh
  have o_law_cell : FnOk P w K mg base CX0 1 (He.ga K "_law_cell") d_law_cell p_law_cell (spOf w p_law_cell.length ctCell) := def_ok (G := fun _ => none) F_law_cell s_law_cell k_law_cell (b_cell) hfree fun g ct hh => nomatch hh
  have o_law_digits : FnOk P w K mg base CX0 1 (He.ga K "_law_digits") d_law_digits p_law_digits (spOf w p_law_digits.length ctDigits) := def_ok (G := fun _ => none) F_law_digits s_law_digits k_law_digits (b_digits) hfree fun g ct hh => nomatch hh
  have o_law_sizes : FnOk P w K mg base CX0 1 (He.ga K "_law_sizes") d_law_sizes p_law_sizes (spOf w p_law_sizes.length ctSizes) := def_ok (G := fun _ => none) F_law_sizes s_law_sizes k_law_sizes (b_sizes) hfree fun g ct hh => nomatch hh
  have o_law_form : FnOk P w K mg base CX0 1 (He.ga K "_law_form") d_law_form p_law_form (spOf w p_law_form.length ctForm) := def_ok (G := fun _ => none) F_law_form s_law_form k_law_form (b_form) hfree fun g ct hh => nomatch hh
  have o_law_large : FnOk P w K mg base CX0 1 (He.ga K "_law_large") d_law_large p_law_large (spOf w p_law_large.length ctLarge) := def_ok (G := fun _ => none) F_law_large s_law_large k_law_large (b_large) hfree fun g ct hh => nomatch hh
  have o_law_shaped : FnOk P w K mg base CX0 1 (He.ga K "_law_shaped") d_law_shaped p_law_shaped (spOf w p_law_shaped.length ctShaped) := def_ok (G := fun _ => none) F_law_shaped s_law_shaped k_law_shaped (b_shaped) hfree fun g ct hh => nomatch hh
  have o_law_machine : FnOk P w K mg base CX0 1 (He.ga K "_law_machine") d_law_machine p_law_machine (spOf w p_law_machine.length ctMachine) := def_ok (G := fun _ => none) F_law_machine s_law_machine k_law_machine (b_machine) hfree fun g ct hh => nomatch hh
  have o_law_counted : FnOk P w K mg base CX0 1 (He.ga K "_law_counted") d_law_counted p_law_counted (spOf w p_law_counted.length ctCounted) := def_ok (G := fun _ => none) F_law_counted s_law_counted k_law_counted (b_counted) hfree fun g ct hh => nomatch hh
  have o_law_apart : FnOk P w K mg base CX0 1 (He.ga K "_law_apart") d_law_apart p_law_apart (spOf w p_law_apart.length ctApart) := def_ok (G := fun _ => none) F_law_apart s_law_apart k_law_apart (b_apart) hfree fun g ct hh => nomatch hh
  have o_law_walked : FnOk P w K mg base CX0 1 (He.ga K "_law_walked") d_law_walked p_law_walked (spOf w p_law_walked.length ctWalked) := def_ok (G := fun _ => none) F_law_walked s_law_walked k_law_walked (b_walked) hfree fun g ct hh => nomatch hh
  have o_law_is_least : FnOk P w K mg base CX0 2 (He.ga K "_law_is_least") d_law_is_least p_law_is_least (spOf w p_law_is_least.length ctIsLeast) := by
    refine def_ok (k := 1) (G := fun g => if g = ("_law_whole" : Str) then some (1, ctWhole) else if g = ("_law_counted" : Str) then some (1, ctCounted) else if g = ("_law_apart" : Str) then some (1, ctApart) else if g = ("_law_walked" : Str) then some (2, ctWalked) else none) F_law_is_least s_law_is_least k_law_is_least (b_isLeast (by show (if _ then _ else _) = _; rw [if_pos rfl]) (by show (if _ then _ else _) = _; rw [if_neg (by decide +kernel), if_pos rfl]) (by show (if _ then _ else _) = _; rw [if_neg (by decide +kernel), if_neg (by decide +kernel), if_pos rfl]) (by show (if _ then _ else _) = _; rw [if_neg (by decide +kernel), if_neg (by decide +kernel), if_neg (by decide +kernel), if_pos rfl])) hfree fun g ct hh => ?_
    split at hh
    · rename_i e; subst e; cases hh; exact ⟨_, d_law_whole, _, p_law_whole, g_law_whole, F_law_whole.kp, bi_law_whole, by decide, rfl, o_law_whole⟩
    split at hh
    · rename_i e; subst e; cases hh; exact ⟨_, d_law_counted, _, p_law_counted, g_law_counted, F_law_counted.kp, bi_law_counted, by decide, rfl, o_law_counted⟩
    split at hh
    · rename_i e; subst e; cases hh; exact ⟨_, d_law_apart, _, p_law_apart, g_law_apart, F_law_apart.kp, bi_law_apart, by decide, rfl, o_law_apart⟩
    split at hh
    · rename_i e; subst e; cases hh; exact ⟨_, d_law_walked, _, p_law_walked, g_law_walked, F_law_walked.kp, bi_law_walked, by decide, rfl, o_law_walked⟩
    · cases hh
  have o_law : FnOk P w K mg base CX0 6 (He.ga K "law") d_law p_law (spOf w p_law.length ctLaw) := by
    refine def_ok (k := 5) (G := fun g => if g = ("_law_digits" : Str) then some (2, ctDigits) else if g = ("_law_cell" : Str) then some (2, ctCell) else if g = ("_law_form" : Str) then some (2, ctForm) else if g = ("_law_sizes" : Str) then some (2, ctSizes) else if g = ("_law_large" : Str) then some (2, ctLarge) else if g = ("_law_machine" : Str) then some (1, ctMachine) else if g = ("_law_shaped" : Str) then some (2, ctShaped) else if g = ("least_form" : Str) then some (2, ctLeast) else if g = ("_law_is_least" : Str) then some (3, ctIsLeast) else none) F_law s_law k_law (b_law (by show (if _ then _ else _) = _; rw [if_pos rfl]) (by show (if _ then _ else _) = _; rw [if_neg (by decide +kernel), if_pos rfl]) (by show (if _ then _ else _) = _; rw [if_neg (by decide +kernel), if_neg (by decide +kernel), if_pos rfl]) (by show (if _ then _ else _) = _; rw [if_neg (by decide +kernel), if_neg (by decide +kernel), if_neg (by decide +kernel), if_pos rfl]) (by show (if _ then _ else _) = _; rw [if_neg (by decide +kernel), if_neg (by decide +kernel), if_neg (by decide +kernel), if_neg (by decide +kernel), if_pos rfl]) (by show (if _ then _ else _) = _; rw [if_neg (by decide +kernel), if_neg (by decide +kernel), if_neg (by decide +kernel), if_neg (by decide +kernel), if_neg (by decide +kernel), if_pos rfl]) (by show (if _ then _ else _) = _; rw [if_neg (by decide +kernel), if_neg (by decide +kernel), if_neg (by decide +kernel), if_neg (by decide +kernel), if_neg (by decide +kernel), if_neg (by decide +kernel), if_pos rfl]) (by show (if _ then _ else _) = _; rw [if_neg (by decide +kernel), if_neg (by decide +kernel), if_neg (by decide +kernel), if_neg (by decide +kernel), if_neg (by decide +kernel), if_neg (by decide +kernel), if_neg (by decide +kernel), if_pos rfl]) (by show (if _ then _ else _) = _; rw [if_neg (by decide +kernel), if_neg (by decide +kernel), if_neg (by decide +kernel), if_neg (by decide +kernel), if_neg (by decide +kernel), if_neg (by decide +kernel), if_neg (by decide +kernel), if_neg (by decide +kernel), if_pos rfl])) hfree fun g ct hh => ?_
    split at hh
    · rename_i e; subst e; cases hh; exact ⟨_, d_law_digits, _, p_law_digits, g_law_digits, F_law_digits.kp, bi_law_digits, by decide, rfl, o_law_digits⟩
    split at hh
    · rename_i e; subst e; cases hh; exact ⟨_, d_law_cell, _, p_law_cell, g_law_cell, F_law_cell.kp, bi_law_cell, by decide, rfl, o_law_cell⟩
    split at hh
    · rename_i e; subst e; cases hh; exact ⟨_, d_law_form, _, p_law_form, g_law_form, F_law_form.kp, bi_law_form, by decide, rfl, o_law_form⟩
    split at hh
    · rename_i e; subst e; cases hh; exact ⟨_, d_law_sizes, _, p_law_sizes, g_law_sizes, F_law_sizes.kp, bi_law_sizes, by decide, rfl, o_law_sizes⟩
    split at hh
    · rename_i e; subst e; cases hh; exact ⟨_, d_law_large, _, p_law_large, g_law_large, F_law_large.kp, bi_law_large, by decide, rfl, o_law_large⟩
    split at hh
    · rename_i e; subst e; cases hh; exact ⟨_, d_law_machine, _, p_law_machine, g_law_machine, F_law_machine.kp, bi_law_machine, by decide, rfl, o_law_machine⟩
    split at hh
    · rename_i e; subst e; cases hh; exact ⟨_, d_law_shaped, _, p_law_shaped, g_law_shaped, F_law_shaped.kp, bi_law_shaped, by decide, rfl, o_law_shaped⟩
    split at hh
    · rename_i e; subst e; cases hh; exact ⟨_, d_least_form, _, p_least_form, g_least_form, F_least_form.kp, bi_least_form, by decide, rfl, o_least_form⟩
    split at hh
    · rename_i e; subst e; cases hh; exact ⟨_, d_law_is_least, _, p_law_is_least, g_law_is_least, F_law_is_least.kp, bi_law_is_least, by decide, rfl, o_law_is_least⟩
    · cases hh
  exact o_law
end Vi
set_option Elab.async false
set_option linter.all false
set_option maxRecDepth 100000
set_option maxHeartbeats 0
namespace Vi
open PySem PySem.Spec PyProof.Rows L2
theorem reps_ints {w : World} {F : Hp} : ∀ ns : List Int, Reps w F (ns.map V.int) (ns.map D.int)
  | [] => .nil
  | n :: ns => .cons (.int n) (reps_ints ns)
theorem start_law {w : World} {K : PySem.W.Frag} {H : Hp} {a : Addr} {ns : List Int} (nl : ∀ a o, K.lookup a = some o → o.cls ≠ .type "list") (hl : ns.length ≤ 63) (hS : SqL K H a (ns.map V.int)) : spOf w 1 ctLaw [.ref a] H (fun v _ => v = .bl true) fun _ _ _ => False := by
  have hR : Rd H a (.lst (ns.map V.int)) := by
    rcases hS with h | ⟨o, its, n, e, c, _⟩
    · exact h
    · exact absurd c (nl a o e)
  refine ⟨H, [.lst (ns.map D.int)], fun r => r = (false, .bl true), rfl, Same.refl _, .cons (.lst hR (reps_ints ns)) .nil, ⟨ns, rfl, by rw [size_eq]; omega, rfl⟩, fun r hr v F' H' _ _ _ _ rp => ?_⟩
  subst hr
  unfold RepR at rp
  rw [if_neg (by simp)] at rp
  cases rp
  rfl
end Vi
open PySem PySem.W PySem.Calls PyProof.Rows
theorem PySem.Challenge.cw_halvedloads_k51_least_form_holds : PySem.Challenge.rw_halvedloads_k51_least_form.Holds := by
  w_on; o_law
  refine HandSHeadRun.head_any (r := OpenLaw.row PySem.Challenge.rw_halvedloads_k51_least_form) (q := view (OpenLaw.row PySem.Challenge.rw_halvedloads_k51_least_form).prog [25]) (H := Vi.hk) (ob := Vi.ob) (M := 2000)
    (loose := ["frozen", "least_form", "least_of", "with_start", "met_states", "renumbered", "like_classes", "split_classes", "numbered", "joined", "_law_whole", "_law_cell", "_law_digits", "_law_sizes", "_law_form", "_law_large", "_law_shaped", "_law_machine", "_law_counted", "_law_apart", "_law_walked", "_law_is_least"]) (d := HandSHeadRun.topDef (OpenLaw.row PySem.Challenge.rw_halvedloads_k51_least_form).prog 25) (kwd := []) Vi.ob_eq
    (by kernel_rfl) (fun s => by kernel_rfl) Vi.run_ok (by kernel_rfl) (by kernel_rfl) (by kernel_rfl) (by rfl) (by first | assumption | decide +kernel) (by decide +kernel) ⟨rfl, rfl, rfl, rfl, rfl, by decide +kernel⟩ ?hw ?hc
  case hw => w_witness2
  case hc =>
    refine L2.walk_ofE (l := PySem.Challenge.rw_halvedloads_k51_least_form) (n := 63) (k := 6) (x := "script") (CX := L2.CX0) rfl (by decide) (by kernel_rfl) ⟨rfl, by decide, by decide⟩ ?F (fun _ _ _ _ z => z)
    intro w mg fa h Y G hmg0
    obtain ⟨K, KX, c, nl⟩ := Y
    have hmg : mg ("law" : PySem.Str) = some (.ref fa) := by
      have e : (HandSHeadRun.topDef (OpenLaw.row PySem.Challenge.rw_halvedloads_k51_least_form).prog 25).name = ("law" : PySem.Str) := by kernel_rfl
      rw [← e]
      exact hmg0
    obtain ⟨fd, hb, hF⟩ := Vi.facts (P := (PySem.Challenge.rw_halvedloads_k51_least_form).prog) (w := w) KX G hmg c
    exact ⟨K, fd, Vi.spOf w 1 Vi.ctLaw, KX, hb, fun H a ns hl _ hS => Vi.start_law nl hl hS, hF⟩
