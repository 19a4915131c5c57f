import PyProof.Rows.All
import Wide.All
import OpenK.AllK
import Wide.FinOn
import HandS.ForMost
import HandS.Wide
import HandS.Conv
import HandS.IsInst
import KE.KeyNested
import PyProof.Rows.TupTab
import KE.SortData
import KE.DataCmp
import HandS.TupAny
import PyProof.StrOps2
import HandS.TupMul
import HandS.Style
import HandS.More
import KE.KDictPairs
import HandS.Replace
import HandS.Strs
import HandS.Sort
import KE.KRevSl
import HandS.Text
import KE.KStrOpen
import HandS.Set
import HandS.SetFor
import HandS.TupSets
import HandS.SetKeys
import PyProof.Rows.SortShellAny
import PyProof.ZipIter
import HandS.Zip
import KE.KDictDisplayH
import PyProof.DictTable
import HandS.CallLocal
import HandS.Flow
import HandS.Codes
import HandS.EndBits
import PySem.Challenge.RW_soundrules_k01_stocks_of_any_things
set_option Elab.async false
set_option linter.all false
set_option maxRecDepth 100000
set_option maxHeartbeats 4000000
/-! Core: the data, the little language, what it makes. -/
namespace Z
open PySem L2

/-- data: a text is its signs; lst is a list that nobody changes; ref n is the n-th changing object of the store -/
inductive D where
  | non
  | bl (b : Bool)
  | int (i : Int)
  | str (s : List Char)
  | tup (ds : List D)
  | lst (ds : List D)
  | ref (n : Nat)
  | fn (x : Str)
instance : Inhabited D := ⟨.non⟩

/-- a changing object -/
inductive O where
  | lst (ds : List D)
  | dct (ks vs : List D)
  | dcn (ks vs : List D)
abbrev Store := List O
abbrev Env := List (Option D)

/-- an answer; an error of a class with a field; nothing said -/
inductive R (A : Type) where
  | ok (a : A)
  | exc (c : Str) (f : Option D) (S : Store)
  | bad
def R.bind {A B : Type} : R A → (A → R B) → R B
  | .ok a, f => f a
  | .exc c x S, _ => .exc c x S
  | .bad, _ => .bad
@[simp] theorem R.ok_bind {A B : Type} (a : A) (f : A → R B) : R.bind (.ok a) f = f a := rfl
@[simp] theorem R.bad_bind {A B : Type} (f : A → R B) : R.bind .bad f = .bad := rfl
@[simp] theorem R.exc_bind {A B : Type} (c : Str) (x : Option D) (S : Store) (f : A → R B) : R.bind (.exc c x S) f = .exc c x S := rfl
theorem R.bind_ok {A B : Type} {r : R A} {f : A → R B} {b : B} (h : R.bind r f = .ok b) : ∃ a, r = .ok a ∧ f a = .ok b := by
  cases r with
  | ok a => exact ⟨a, rfl, h⟩
  | exc _ _ _ => cases h
  | bad => cases h

inductive Op where
  | add | sub | mul | mod | pow | fdiv | band | shr | shl | addm
inductive Cm where
  | eq | ne | lt | le | gt | ge | isIn | notIn | isNone | notNone | isTrue | notTrue
inductive Ty where
  | non | bool | int | str | tuple | list | dict
  deriving DecidableEq
inductive Bt where
  | len | tuple | list | listRg | tupRg | divmod | sorted | sortedSet | lenSet | inRg | notInRg | max2 | min2 | dict | dictN | all | any | sum | int | isTy (t : Ty)
inductive Mt where
  | join | append | index | indexT | extend | get2 | upper
inductive IK where
  | sq | rng1 | rng2 | rng3 | zip2 | enum

inductive E where
  | var (i : Nat)
  | con (d : D)
  | glo (x : Str)
  | tup (es : List E)
  | lst (m : Bool) (es : List E)
  | dct (ks vs : List E)
  | dcn (ks vs : List E)
  | bin (o : Op) (a b : E)
  | neg (a : E)
  | not (a : E)
  | and (es : List E)
  | or (es : List E)
  | orv (a b : E)
  | cmp (o : Cm) (a b : E)
  | chain (o o' : Cm) (a b c : E)
  | ix (a i : E)
  | sl (m : Bool) (a : E) (l : Bool) (lo : E) (h : Bool) (hi : E)
  | rev (a : E)
  | no
  | call (f : Str) (es : List E)
  | callv (i : Nat) (es : List E)
  | blt (m : Bool) (b : Bt) (es : List E)
  | mth (t : Mt) (o : E) (es : List E)
  | comp (m : Bool) (own : List Nat) (g : List Nat) (one : Bool) (k : IK) (its : List E) (c : E) (e : E)

inductive Tg where
  | nm (i : Nat)
  | tp (gs : List Tg)
  | sub (o i : E)

inductive S where
  | asg (g : Tg) (e : E)
  | exp (e : E)
  | ite (c : E) (a b : List S)
  | fo (g : List Nat) (one : Bool) (k : IK) (its : List E) (body : List S)
  | whl (c : E) (body : List S)
  | ret (e : E)
  | pas | brk | cnt
  | rse

structure Fd where
  ps : Nat
  ns : Nat
  body : List S

/-! ### by values -/
mutual
def D.py : D → PyData
  | .non => .none
  | .bl b => .bool b
  | .int i => .int i
  | .str s => .str ⟨(s.map Char.toNat).toArray⟩
  | .tup ds => .tuple (D.pys ds)
  | .lst ds => .list (D.pys ds)
  | .ref _ => .none
  | .fn _ => .none
def D.pys : List D → List PyData
  | [] => []
  | d :: ds => d.py :: D.pys ds
end
/-- no ref within, not deeper than n -/
def okD : Nat → D → Bool
  | 0, _ => false
  | n + 1, .tup ds => ds.all (okD n)
  | n + 1, .lst ds => ds.all (okD n)
  | _ + 1, .ref _ => false
  | _ + 1, .fn _ => false
  | _ + 1, _ => true
def flatD : D → Bool
  | .non | .bl _ | .int _ | .str _ => true
  | _ => false
/-- what a list of the store holds, as data -/
def deref (S : Store) : D → D
  | .ref n => match S[n]? with
    | some (.lst ds) => .lst ds
    | _ => .ref n
  | d => d
def eqD (a b : D) : Bool := PyData.eqv a.py b.py
def inD (a : D) (ds : List D) : Bool := ds.any fun d => eqD d a
/-- the items of a list or a tuple -/
def items (S : Store) : D → Option (List D)
  | .tup ds => some ds
  | .lst ds => some ds
  | .ref n => match S[n]? with
    | some (.lst ds) => some ds
    | _ => none
  | _ => none

def litD (m : Bool) (ds : List D) (S : Store) : R (D × Store) :=
  if m then .ok (.ref S.length, S ++ [.lst ds]) else .ok (.lst ds, S)

/-- the items of a list -/
def lsD (S : Store) : D → Option (List D)
  | .lst ds => some ds
  | .ref n => match S[n]? with
    | some (.lst ds) => some ds
    | _ => none
  | _ => none
/-- a list and a list behind it -/
def catD (m : Bool) (a b : D) (S : Store) : R (D × Store) :=
  match lsD S a, lsD S b with
  | some x, some y => if x.length + y.length ≤ sizeLine then litD m (x ++ y) S else .bad
  | _, _ => .bad
def binD (o : Op) (a b : D) (S : Store) : R (D × Store) :=
  match o, a, b with
  | .add, .int i, .int j => .ok (.int (i + j), S)
  | .add, .str x, .str y => if x.length + y.length ≤ sizeLine then .ok (.str (x ++ y), S) else .bad
  | .add, .tup x, .tup y => if x.length + y.length ≤ sizeLine then .ok (.tup (x ++ y), S) else .bad
  | .add, .lst x, .lst y => if x.length + y.length ≤ sizeLine then .ok (.lst (x ++ y), S) else .bad
  | .addm, .lst x, .lst y => if x.length + y.length ≤ sizeLine then .ok (.ref S.length, S ++ [.lst (x ++ y)]) else .bad
  | .add, .ref n, b => catD false (.ref n) b S
  | .add, .lst x, .ref n => catD false (.lst x) (.ref n) S
  | .addm, .ref n, b => catD true (.ref n) b S
  | .addm, .lst x, .ref n => catD true (.lst x) (.ref n) S
  | .sub, .int i, .int j => .ok (.int (i - j), S)
  | .mul, .int i, .int j => if i.natAbs.log2 + j.natAbs.log2 < 100000000 then .ok (.int (i * j), S) else .bad
  | .mul, .str x, .int j => if 0 ≤ j ∧ j ≤ 1000 ∧ x.length ≤ 10000 then .ok (.str (List.replicate j.toNat x).flatten, S) else .bad
  | .mul, .tup x, .int j => if x ≠ [] ∧ 2 ≤ j ∧ j ≤ 1000 ∧ x.length ≤ 1000 then .ok (.tup (List.replicate j.toNat x).flatten, S) else .bad
  | .mod, .int i, .int j => if j = 0 then .bad else .ok (.int (i.fmod j), S)
  | .pow, .int i, .int j => if 0 ≤ j ∧ j ≤ 1000000 ∧ i.natAbs < 2 ^ 64 then .ok (.int (i ^ j.toNat), S) else .bad
  | .shl, .int i, .int j => if 0 ≤ j ∧ j ≤ 1000000 ∧ i.natAbs < 2 ^ 64 then .ok (.int (i * 2 ^ j.toNat), S) else .bad
  | .shr, .int i, .int j => if 0 ≤ j then .ok (.int (i / 2 ^ j.toNat), S) else .bad
  | .band, .int i, .int j => .ok (.int (Builtin.bitAnd i j), S)
  | _, _, _ => .bad

mutual
/-- a key of any depth -/
def nkD : D → Option NestedKey
  | .non => some .none
  | .bl b => some (.num (if b = true then 1 else 0))
  | .int i => some (.num i)
  | .str s => some (.text ⟨(s.map Char.toNat).toArray⟩)
  | .tup ds => (nkDs ds).map .tup
  | .lst _ => none
  | .ref _ => none
  | .fn _ => none
def nkDs : List D → Option (List NestedKey)
  | [] => some []
  | d :: ds => (nkD d).bind fun k => (nkDs ds).map (k :: ·)
end
/-- a key that is a tuple, of eight levels at most -/
def keyN : D → Option NestedKey
  | .tup ds => (nkDs ds).bind fun ks => if (NestedKey.tup ks).depth ≤ 8 then some (.tup ks) else none
  | _ => none
def inN (k : NestedKey) (ks : List D) : Bool := ks.any fun d => decide (keyN d = some k)
def findN : List D → List D → NestedKey → Option D
  | c :: ks, v :: vs, k => if keyN c = some k then some v else findN ks vs k
  | _, _, _ => none
def putVN (k : NestedKey) (d : D) : List D → List D → List D
  | c :: ks, v :: vs => (if keyN c = some k then d else v) :: putVN k d ks vs
  | _, vs => vs
def putN (ks vs : List D) (a : D) (k : NestedKey) (d : D) : List D × List D := if inN k ks then (ks, putVN k d ks vs) else (ks ++ [a], vs ++ [d])
def keyOk : D → Bool
  | .int _ | .str _ => true
  | _ => false
/-- a in b -/
def memD (S : Store) (a b : D) : Option Bool :=
  match b with
  | .str y => match a with
    | .str [c] => some (decide (c ∈ y))
    | _ => none
  | .ref n => match S[n]? with
    | some (.lst ds) => if flatD a ∧ ds.all flatD then some (inD a ds) else if okD 60 a ∧ ds.all (okD 59) then some (inD a ds) else none
    | some (.dct ks _) => if keyOk a ∧ ks.all keyOk then some (inD a ks) else none
    | some (.dcn ks _) => (keyN a).map fun k => inN k ks
    | _ => none
  | .tup ds => if flatD a ∧ ds.all flatD then some (inD a ds) else if okD 60 a ∧ ds.all (okD 59) then some (inD a ds) else none
  | .lst ds => if flatD a ∧ ds.all flatD then some (inD a ds) else if okD 60 a ∧ ds.all (okD 59) then some (inD a ds) else none
  | _ => none
/-- x before y, by the signs -/
def ltS : List Char → List Char → Bool
  | [], [] => false
  | [], _ :: _ => true
  | _ :: _, [] => false
  | a :: x, b :: y => if a.toNat < b.toNat then true else if b.toNat < a.toNat then false else ltS x y
/-- a < b -/
def ltD (a b : D) : Option Bool :=
  match a, b with
  | .int i, .int j => some (decide (i < j))
  | .str x, .str y => some (ltS x y)
  | .tup xs, .tup ys => if okD 60 (.tup xs) ∧ okD 60 (.tup ys) ∧ PySem.W.alike (D.tup xs).py (D.tup ys).py then some (PySem.W.dataLt (D.tup xs).py (D.tup ys).py) else none
  | _, _ => none
def isNonD : D → Bool
  | .non => true
  | _ => false
def cmpD (o : Cm) (a b : D) (S : Store) : R (D × Store) :=
  match o with
  | .eq => if okD 60 (deref S a) ∧ okD 60 (deref S b) then .ok (.bl (eqD (deref S a) (deref S b)), S) else .bad
  | .ne => if okD 60 (deref S a) ∧ okD 60 (deref S b) then .ok (.bl (!eqD (deref S a) (deref S b)), S) else .bad
  | .lt => match ltD a b with
    | some k => .ok (.bl k, S)
    | none => .bad
  | .le => match a, b with
    | .int i, .int j => .ok (.bl (decide (i ≤ j)), S)
    | _, _ => .bad
  | .gt => match a, b with
    | .int i, .int j => .ok (.bl (decide (j < i)), S)
    | _, _ => .bad
  | .ge => match a, b with
    | .int i, .int j => .ok (.bl (decide (j ≤ i)), S)
    | _, _ => .bad
  | .isIn => match memD S a b with
    | some k => .ok (.bl k, S)
    | none => .bad
  | .notIn => match memD S a b with
    | some k => .ok (.bl (!k), S)
    | none => .bad
  | .isNone => match b with
    | .non => .ok (.bl (isNonD a), S)
    | _ => .bad
  | .notNone => match b with
    | .non => .ok (.bl (!isNonD a), S)
    | _ => .bad
  | .isTrue => match a, b with
    | .bl c, .bl k => .ok (.bl (c == k), S)
    | _, _ => .bad
  | .notTrue => match a, b with
    | .bl c, .bl k => .ok (.bl (!(c == k)), S)
    | _, _ => .bad

/-- the value that a key has, by == -/
def findK : List D → List D → D → Option D
  | k :: ks, v :: vs, a => if eqD k a then some v else findK ks vs a
  | _, _, _ => none
def ixD (a i : D) (S : Store) : R (D × Store) :=
  match a, i with
  | .str x, .int j => match atI x j with
    | some c => .ok (.str [c], S)
    | none => .bad
  | .ref n, i => match S[n]? with
    | some (.lst ds) => match i with
      | .int j => match atI ds j with
        | some d => .ok (d, S)
        | none => .bad
      | _ => .bad
    | some (.dct ks vs) => if keyOk i ∧ ks.all keyOk then match findK ks vs i with
        | some d => .ok (d, S)
        | none => .bad
      else .bad
    | some (.dcn ks vs) => match (keyN i).bind fun k => findN ks vs k with
        | some d => .ok (d, S)
        | none => .bad
    | _ => .bad
  | .tup ds, .int j => match atI ds j with
    | some d => .ok (d, S)
    | none => .bad
  | .lst ds, .int j => match atI ds j with
    | some d => .ok (d, S)
    | none => .bad
  | _, _ => .bad
def cut {A : Type} (xs : List A) (lo hi : Option Int) : List A := (xs.drop (HT.sIx xs.length 0 lo)).take (HT.sIx xs.length xs.length hi - HT.sIx xs.length 0 lo)
def slD (m : Bool) (a : D) (lo hi : Option Int) (S : Store) : R (D × Store) :=
  match a with
  | .str x => .ok (.str (cut x lo hi), S)
  | .tup ds => .ok (.tup (cut ds lo hi), S)
  | a => match items S a with
    | some ds => litD m (cut ds lo hi) S
    | none => .bad
def revD (a : D) (S : Store) : R (D × Store) :=
  match a with
  | .str x => .ok (.str x.reverse, S)
  | .tup ds => .ok (.tup ds.reverse, S)
  | .lst ds => .ok (.lst ds.reverse, S)
  | _ => .bad
/-- a in range(b), or not in -/
def inRgD (neg : Bool) (a b : D) (S : Store) : R (D × Store) :=
  match a, b with
  | .int i, .int j => .ok (.bl (if neg then !decide (0 ≤ i ∧ i < j) else decide (0 ≤ i ∧ i < j)), S)
  | _, _ => .bad

def allInt : List D → Option (List Int)
  | [] => some []
  | .int i :: ds => (allInt ds).map (i :: ·)
  | _ :: _ => none
def allStr : List D → Option (List (List Char))
  | [] => some []
  | .str i :: ds => (allStr ds).map (i :: ·)
  | _ :: _ => none
def allBl : List D → Option (List Bool)
  | [] => some []
  | .bl i :: ds => (allBl ds).map (i :: ·)
  | _ :: _ => none
/-- x ≤ y as texts -/
def leS (x y : List Char) : Bool := !ltS y x
def insS (x : List Char) : List (List Char) → List (List Char)
  | [] => [x]
  | y :: ys => if leS x y then x :: y :: ys else y :: insS x ys
def sortS (xs : List (List Char)) : List (List Char) := xs.foldr insS []
def insI (x : Int) : List Int → List Int
  | [] => [x]
  | y :: ys => if x ≤ y then x :: y :: ys else y :: insI x ys
def sortI (xs : List Int) : List Int := xs.foldr insI []
/-- each once -/
def ded {A : Type} [DecidableEq A] : List A → List A
  | [] => []
  | x :: xs => if x ∈ ded xs then ded xs else x :: ded xs
def joinS (sep : List Char) : List (List Char) → List Char
  | [] => []
  | [x] => x
  | x :: xs => x ++ sep ++ joinS sep xs
def tyD (S : Store) : D → Option Ty
  | .non => some .non
  | .bl _ => some .bool
  | .int _ => some .int
  | .str _ => some .str
  | .tup _ => some .tuple
  | .lst _ => some .list
  | .fn _ => none
  | .ref n => match S[n]? with
    | some (.lst _) => some .list
    | some (.dct _ _) => some .dict
    | some (.dcn _ _) => none
    | _ => none
def subTy (T t : Ty) : Bool := decide (T = t) || (decide (T = .bool) && decide (t = .int))

def putV (a d : D) : List D → List D → List D
  | k :: ks, v :: vs => (if eqD k a then d else v) :: putV a d ks vs
  | _, vs => vs
def putK (ks vs : List D) (a d : D) : List D × List D := if inD a ks then (ks, putV a d ks vs) else (ks ++ [a], vs ++ [d])
/-- dict(pairs) -/
def dictD : List D → List D → List D → Option (List D × List D)
  | [], ks, vs => some (ks, vs)
  | .tup [k, v] :: ds, ks, vs => if keyOk k ∧ ks.length < sizeLine then dictD ds (putK ks vs k v).1 (putK ks vs k v).2 else none
  | _ :: _, _, _ => none
/-- dict(pairs), the keys tuples -/
def dictN : List D → List D → List D → Option (List D × List D)
  | [], ks, vs => some (ks, vs)
  | .tup [k, v] :: ds, ks, vs => match keyN k with
    | some kk => if ks.length < sizeLine then dictN ds (putN ks vs k kk v).1 (putN ks vs k kk v).2 else none
    | none => none
  | _ :: _, _, _ => none
def rangeD (lo : Int) : Nat → List D
  | 0 => []
  | n + 1 => .int lo :: rangeD (lo + 1) n
/-- list(range(n)) -/
def lrgD (m : Bool) (xs : List D) (S : Store) : R (D × Store) :=
  match xs with
  | [.int j] => if 0 ≤ j ∧ j ≤ sizeLine then litD m (rangeD 0 j.toNat) S else .bad
  | _ => .bad
def trgD (xs : List D) (S : Store) : R (D × Store) :=
  match xs with
  | [.int j] => if 0 ≤ j ∧ j ≤ sizeLine then .ok (.tup (rangeD 0 j.toNat), S) else .bad
  | _ => .bad
/-- x.upper(), of signs below 128 -/
def upC (c : Char) : Char := if 97 ≤ c.toNat ∧ c.toNat ≤ 122 then Char.ofNat (c.toNat - 32) else c
def uprD (o : D) (xs : List D) (S : Store) : R (D × Store) :=
  match o, xs with
  | .str x, [] => if x.length ≤ 5592405 ∧ (x.all fun c => decide (c.toNat < 128)) = true then .ok (.str (x.map upC), S) else .bad
  | _, _ => .bad
def dicD (xs : List D) (S : Store) : R (D × Store) :=
  match xs with
  | [.tup ds] => match dictD ds [] [] with
    | some p => .ok (.ref S.length, S ++ [.dct p.1 p.2])
    | none => .bad
  | [.lst ds] => match dictD ds [] [] with
    | some p => .ok (.ref S.length, S ++ [.dct p.1 p.2])
    | none => .bad
  | _ => .bad
def dicND (xs : List D) (S : Store) : R (D × Store) :=
  match xs with
  | [.lst ds] => match dictN ds [] [] with
    | some p => .ok (.ref S.length, S ++ [.dcn p.1 p.2])
    | none => .bad
  | _ => .bad
def int2 : List D → Option (Int × Int)
  | [.int i, .int j] => some (i, j)
  | _ => none
def tupD : D → Bool
  | .tup (_ :: _) => true
  | _ => false
def allAlk (ds : List D) : Bool := ds.all fun a => ds.all fun b => PySem.W.alike a.py b.py
/-- a ≤ b, data alike -/
def leD (a b : D) : Bool := !PySem.W.dataLt b.py a.py
/-- sorted(set(a)), len(set(a)) -/
def setD (m : Bool) (srt : Bool) (a : D) (S : Store) : R (D × Store) :=
  match items S a with
  | some ds => match allStr ds with
    | some ss => if ss.length < 4000 then (if srt then litD m ((sortS (ded ss)).map .str) S else .ok (.int (ded ss).length, S)) else .bad
    | none => match allInt ds with
      | some ns => if ns.length < 4000 then (if srt then (if ns.length < 64 then litD m ((sortI (ded ns)).map .int) S else .bad) else .ok (.int (ded ns).length, S)) else .bad
      | none => .bad
  | none => .bad
def bltD (m : Bool) (b : Bt) (xs : List D) (S : Store) : R (D × Store) :=
  match b, xs with
  | .len, [.str x] => .ok (.int x.length, S)
  | .len, [a] => match items S a with
    | some ds => .ok (.int ds.length, S)
    | none => .bad
  | .tuple, [.str x] => .ok (.tup (x.map fun c => .str [c]), S)
  | .tuple, [a] => match items S a with
    | some ds => .ok (.tup ds, S)
    | none => .bad
  | .list, [.str x] => litD m (x.map fun c => .str [c]) S
  | .list, [a] => match items S a with
    | some ds => litD m ds S
    | none => .bad
  | .divmod, xs => match int2 xs with
    | some (i, j) => if 0 < j ∧ j.natAbs < 1073741824 then .ok (.tup [.int (i / j), .int (i % j)], S) else .bad
    | none => .bad
  | .sorted, [.tup _] => .bad
  | .sorted, [a] => match items S a with
    | some ds => match allStr ds with
      | some ss => if ss.length < 64 then litD m ((sortS ss).map .str) S else .bad
      | none => match allInt ds with
        | some ns => if ns.length < 64 then litD m ((sortI ns).map .int) S else .bad
        | none => if ds.length ≤ 1 then litD m ds S else if ds.all (okD 50) ∧ ds.all tupD ∧ allAlk ds then litD m (ds.mergeSort leD) S else .bad
    | none => match a with
      | .ref n => match S[n]? with
        | some (.dct ks _) => match allStr ks with
          | some ss => if ss.length < 64 then litD m ((sortS ss).map .str) S else .bad
          | none => .bad
        | _ => .bad
      | _ => .bad
  | .sortedSet, [a] => setD m true a S
  | .lenSet, [a] => setD m false a S
  | .inRg, [a, b] => inRgD false a b S
  | .notInRg, [a, b] => inRgD true a b S
  | .max2, xs => match int2 xs with
    | some (i, j) => .ok (.int (if j > i then j else i), S)
    | none => .bad
  | .min2, xs => match int2 xs with
    | some (i, j) => .ok (.int (if j < i then j else i), S)
    | none => .bad
  | .all, [.tup _] => .bad
  | .any, [.tup _] => .bad
  | .all, [a] => match items S a with
    | some ds => match allBl ds with
      | some bs => .ok (.bl (bs.all id), S)
      | none => .bad
    | none => .bad
  | .any, [a] => match items S a with
    | some ds => match allBl ds with
      | some bs => .ok (.bl (bs.any id), S)
      | none => .bad
    | none => .bad
  | .dict, xs => dicD xs S
  | .dictN, xs => dicND xs S
  | .int, [.bl b] => .ok (.int (if b then 1 else 0), S)
  | .listRg, xs => lrgD m xs S
  | .tupRg, xs => trgD xs S
  | .isTy t, [a] => match tyD S a with
    | some T => .ok (.bl (subTy T t), S)
    | none => .bad
  | _, _ => .bad

/-- whether a method is one of this thing -/
def recvOk (t : Mt) (o : D) (S : Store) : Bool :=
  match t, o with
  | .append, .ref n => match S[n]? with
    | some (.lst _) => true
    | _ => false
  | .join, .str _ => true
  | .upper, .str _ => true
  | .extend, .ref n => match S[n]? with
    | some (.lst _) => true
    | _ => false
  | .index, .str _ => true
  | .indexT, .tup _ => true
  | .get2, .ref n => match S[n]? with
    | some (.dct _ _) => true
    | some (.dcn _ _) => true
    | _ => false
  | _, _ => false
def appD (o : D) (xs : List D) (S : Store) : R (D × Store) :=
  match o, xs with
  | .ref n, [d] => match S[n]? with
    | some (.lst ds) => if ds.length < sizeLine then .ok (.non, S.set n (.lst (ds ++ [d]))) else .bad
    | _ => .bad
  | _, _ => .bad
def joiD (o : D) (xs : List D) (S : Store) : R (D × Store) :=
  match o, xs with
  | .str s, [a] => match items S a with
    | some ds => match allStr ds with
      | some ss => if (ss.map List.length).sum + ss.length * s.length ≤ 16777216 then .ok (.str (joinS s ss), S) else .bad
      | none => .bad
    | none => .bad
  | _, _ => .bad
def idxD (o : D) (xs : List D) (S : Store) : R (D × Store) :=
  match o, xs with
  | .str x, [.str [c]] => if c ∈ x then .ok (.int (x.idxOf c), S) else .bad
  | _, _ => .bad
def idxTD (o : D) (xs : List D) (S : Store) : R (D × Store) :=
  match o, xs with
  | .tup ds, [.str z] => match allStr ds with
    | some ss => if z ∈ ss then .ok (.int (ss.idxOf z), S) else .bad
    | none => .bad
  | _, _ => .bad
def extD (o : D) (xs : List D) (S : Store) : R (D × Store) :=
  match o, xs with
  | .ref n, [.ref m] => match S[n]? with
    | some (.lst ds) => match S[m]? with
      | some (.lst es) => if ds.length + es.length ≤ sizeLine then .ok (.non, S.set n (.lst (ds ++ es))) else .bad
      | _ => .bad
    | _ => .bad
  | _, _ => .bad
/-- d.get(k, x) -/
def get2D (o : D) (xs : List D) (S : Store) : R (D × Store) :=
  match o, xs with
  | .ref n, [i, d] => match S[n]? with
    | some (.dct ks vs) => if keyOk i ∧ ks.all keyOk then .ok ((findK ks vs i).getD d, S) else .bad
    | some (.dcn ks vs) => match keyN i with
      | some k => .ok ((findN ks vs k).getD d, S)
      | none => .bad
    | _ => .bad
  | _, _ => .bad
def mthD (t : Mt) (o : D) (xs : List D) (S : Store) : R (D × Store) :=
  match t with
  | .append => appD o xs S
  | .join => joiD o xs S
  | .index => idxD o xs S
  | .indexT => idxTD o xs S
  | .extend => extD o xs S
  | .get2 => get2D o xs S
  | .upper => uprD o xs S

def subD (o i d : D) (S : Store) : R Store :=
  match o with
  | .ref n => match S[n]? with
    | some (.lst ds) => match i with
      | .int j => match ixN ds.length j with
        | some k => .ok (S.set n (.lst (ds.set k d)))
        | none => .bad
      | _ => .bad
    | some (.dct ks vs) => if keyOk i ∧ ks.all keyOk ∧ ks.length < sizeLine then .ok (S.set n (.dct (putK ks vs i d).1 (putK ks vs i d).2)) else .bad
    | some (.dcn ks vs) => match keyN i with
      | some k => if ks.length < sizeLine then .ok (S.set n (.dcn (putN ks vs i k d).1 (putN ks vs i k d).2)) else .bad
      | none => .bad
    | _ => .bad
  | _ => .bad

/-- what a loop walks: given items, or a list of the store -/
inductive Itr where
  | sq (ds : List D)
  | rf (n : Nat)
def zipD : List D → List D → List D
  | a :: as, b :: bs => .tup [a, b] :: zipD as bs
  | _, _ => []
/-- lo, lo + c, .. (n of them) -/
def rangeC (lo c : Int) : Nat → List D
  | 0 => []
  | n + 1 => .int lo :: rangeC (lo + c) c n
def itrD (k : IK) (xs : List D) (S : Store) : R Itr :=
  match k with
  | .sq => match xs with
    | [.str x] => .ok (.sq (x.map fun c => .str [c]))
    | [.tup ds] => .ok (.sq ds)
    | [.lst ds] => .ok (.sq ds)
    | [.ref n] => match S[n]? with
      | some (.lst _) => .ok (.rf n)
      | _ => .bad
    | _ => .bad
  | .rng1 => match xs with
    | [.int j] => if -(2 ^ 61) ≤ j ∧ j ≤ sizeLine then .ok (.sq (rangeD 0 j.toNat)) else .bad
    | _ => .bad
  | .rng2 => match xs with
    | [.int i, .int j] => if -(2 ^ 61) ≤ i ∧ i < 2 ^ 61 ∧ -(2 ^ 61) ≤ j ∧ j < 2 ^ 61 ∧ j - i ≤ sizeLine then .ok (.sq (rangeD i (j - i).toNat)) else .bad
    | _ => .bad
  | .rng3 => match xs with
    | [.int i, .int j, .int c] => if -(2 ^ 61) ≤ i ∧ i < 2 ^ 61 ∧ -(2 ^ 61) ≤ j ∧ j < 2 ^ 61 ∧ 0 < c ∧ c < 1073741824 ∧ j - i ≤ sizeLine then .ok (.sq (rangeC i c ((j - i + c - 1) / c).toNat)) else .bad
    | _ => .bad
  | .zip2 => match xs with
    | [.tup as, .tup bs] => .ok (.sq (zipD as bs))
    | [.lst as, .tup bs] => .ok (.sq (zipD as bs))
    | [.tup as, .lst bs] => .ok (.sq (zipD as bs))
    | [.lst as, .lst bs] => .ok (.sq (zipD as bs))
    | _ => .bad
  | _ => .bad

/-! ### what the language makes -/
structure Ctx where
  call : Str → List D → Store → R (D × Store)
  glo : Str → Option D
  fuel : Nat

def wipeE (ρ : Env) : List Nat → Env
  | [] => ρ
  | v :: vs => (wipeE ρ vs).set v none
/-- the names of a loop's target -/
def bindG (g : List Nat) (one : Bool) (d : D) (ρ : Env) : R Env :=
  if one then match g with
    | [i] => .ok (ρ.set i (some d))
    | _ => .bad
  else match d with
    | .tup ds => if ds.length = g.length then .ok ((g.zip ds).foldl (fun ρ p => ρ.set p.1 (some p.2)) ρ) else .bad
    | _ => .bad
def compL (f : D → Store → R (List D × Store)) : List D → Store → R (List D × Store)
  | [], S => .ok ([], S)
  | d :: ds, S => (f d S).bind fun p => (compL f ds p.2).bind fun q => .ok (p.1 ++ q.1, q.2)
/-- over a list of the store that keeps its length -/
def compR (f : D → Store → R (List D × Store)) (n len : Nat) : Nat → Nat → Store → R (List D × Store)
  | 0, _, S => match S[n]? with
    | some (.lst ds) => if ds.length = len then .ok ([], S) else .bad
    | _ => .bad
  | m + 1, i, S => match S[n]? with
    | some (.lst ds) => if ds.length = len then match ds[i]? with
        | some d => (f d S).bind fun p => (compR f n len m (i + 1) p.2).bind fun q => .ok (p.1 ++ q.1, q.2)
        | none => .bad
      else .bad
    | _ => .bad
def compI (f : D → Store → R (List D × Store)) (it : Itr) (S : Store) : R (List D × Store) :=
  match it with
  | .sq ds => compL f ds S
  | .rf n => match S[n]? with
    | some (.lst ds) => compR f n ds.length ds.length 0 S
    | _ => .bad
def partD (p : D × Store) : R (Option Int × Store) :=
  match p.1 with
  | .int i => .ok (some i, p.2)
  | _ => .bad

def tupOnly (p : D × Store) : R (D × Store) :=
  match p.1 with
  | .tup ds => .ok (.tup ds, p.2)
  | _ => .bad

mutual
def evE (G : Ctx) : E → Env → Store → R (D × Store)
  | .var i, ρ, S => match ρ[i]? with
    | some (some d) => .ok (d, S)
    | _ => .bad
  | .con d, _, S => .ok (d, S)
  | .glo x, _, S => match G.glo x with
    | some d => .ok (d, S)
    | none => .bad
  | .tup es, ρ, S => (evEs G es ρ S).bind fun p => .ok (.tup p.1, p.2)
  | .lst m es, ρ, S => (evEs G es ρ S).bind fun p => litD m p.1 p.2
  | .dct ks vs, ρ, S => match ks, vs with
    | [], [] => .ok (.ref S.length, S ++ [.dct [] []])
    | _, _ => .bad
  | .dcn ks vs, ρ, S => match ks, vs with
    | [], [] => .ok (.ref S.length, S ++ [.dcn [] []])
    | [a], [b] => (evE G a ρ S).bind fun p => (evE G b ρ p.2).bind fun q => match keyN p.1 with
      | some _ => .ok (.ref q.2.length, q.2 ++ [.dcn [p.1] [q.1]])
      | none => .bad
    | _, _ => .bad
  | .bin o a b, ρ, S => (evE G a ρ S).bind fun p => (evE G b ρ p.2).bind fun q => binD o p.1 q.1 q.2
  | .neg a, ρ, S => (evE G a ρ S).bind fun p => match p.1 with
    | .int i => .ok (.int (-i), p.2)
    | _ => .bad
  | .not a, ρ, S => (evE G a ρ S).bind fun p => match p.1 with
    | .bl b => .ok (.bl (!b), p.2)
    | _ => .bad
  | .and es, ρ, S => evAnd G es ρ S
  | .or es, ρ, S => evOr G es ρ S
  | .orv a b, ρ, S => (evE G a ρ S).bind fun p => match p.1 with
    | .tup (d :: ds) => .ok (.tup (d :: ds), p.2)
    | .tup [] => (evE G b ρ p.2).bind tupOnly
    | .non => (evE G b ρ p.2).bind tupOnly
    | _ => .bad
  | .cmp o a b, ρ, S => (evE G a ρ S).bind fun p => (evE G b ρ p.2).bind fun q => cmpD o p.1 q.1 q.2
  | .chain o o' a b c, ρ, S => (evE G a ρ S).bind fun p => (evE G b ρ p.2).bind fun q => (cmpD o p.1 q.1 q.2).bind fun r => match r.1 with
    | .bl true => (evE G c ρ r.2).bind fun s => cmpD o' q.1 s.1 s.2
    | .bl false => .ok (.bl false, r.2)
    | _ => .bad
  | .ix a i, ρ, S => (evE G a ρ S).bind fun p => (evE G i ρ p.2).bind fun q => ixD p.1 q.1 q.2
  | .sl m a l lo h hi, ρ, S => (evE G a ρ S).bind fun p => (if l then (evE G lo ρ p.2).bind partD else .ok (none, p.2)).bind fun q =>
      (if h then (evE G hi ρ q.2).bind partD else .ok (none, q.2)).bind fun r => slD m p.1 q.1 r.1 r.2
  | .rev a, ρ, S => (evE G a ρ S).bind fun p => revD p.1 p.2
  | .no, _, _ => .bad
  | .call f es, ρ, S => (evEs G es ρ S).bind fun p => G.call f p.1 p.2
  | .callv i es, ρ, S => match ρ[i]? with
    | some (some (.fn f)) => (evEs G es ρ S).bind fun p => G.call f p.1 p.2
    | _ => .bad
  | .blt m b es, ρ, S => (evEs G es ρ S).bind fun p => bltD m b p.1 p.2
  | .mth t o es, ρ, S => (evE G o ρ S).bind fun p => if recvOk t p.1 p.2 then (evEs G es ρ p.2).bind fun q => mthD t p.1 q.1 q.2 else .bad
  | .comp m own g one k its c e, ρ, S => (evEs G its ρ S).bind fun p => (itrD k p.1 p.2).bind fun it =>
      (compI (fun d S => (bindG g one d (wipeE ρ own)).bind fun ρ' => (evE G c ρ' S).bind fun q => match q.1 with
        | .bl true => (evE G e ρ' q.2).bind fun r => .ok ([r.1], r.2)
        | .bl false => .ok ([], q.2)
        | _ => .bad) it p.2).bind fun q => litD m q.1 q.2
def evEs (G : Ctx) : List E → Env → Store → R (List D × Store)
  | [], _, S => .ok ([], S)
  | e :: es, ρ, S => (evE G e ρ S).bind fun p => (evEs G es ρ p.2).bind fun q => .ok (p.1 :: q.1, q.2)
def evAnd (G : Ctx) : List E → Env → Store → R (D × Store)
  | [], _, _ => .bad
  | [e], ρ, S => evE G e ρ S
  | e :: es, ρ, S => (evE G e ρ S).bind fun p => match p.1 with
    | .bl true => evAnd G es ρ p.2
    | .bl false => .ok (.bl false, p.2)
    | _ => .bad
def evOr (G : Ctx) : List E → Env → Store → R (D × Store)
  | [], _, _ => .bad
  | [e], ρ, S => evE G e ρ S
  | e :: es, ρ, S => (evE G e ρ S).bind fun p => match p.1 with
    | .bl true => .ok (.bl true, p.2)
    | .bl false => evOr G es ρ p.2
    | _ => .bad
end

inductive Fl where
  | nx | rt (d : D) | bk | ct
mutual
def asg (G : Ctx) : Tg → D → Env → Store → R (Env × Store)
  | .nm i, d, ρ, S => .ok (ρ.set i (some d), S)
  | .tp gs, d, ρ, S => match d with
    | .tup ds => if ds.length = gs.length then asgs G gs ds ρ S else .bad
    | _ => .bad
  | .sub o i, d, ρ, S => (evE G o ρ S).bind fun p => (evE G i ρ p.2).bind fun q => (subD p.1 q.1 d q.2).bind fun S' => .ok (ρ, S')
def asgs (G : Ctx) : List Tg → List D → Env → Store → R (Env × Store)
  | g :: gs, d :: ds, ρ, S => (asg G g d ρ S).bind fun p => asgs G gs ds p.1 p.2
  | [], [], ρ, S => .ok (ρ, S)
  | _, _, _, _ => .bad
end

def forL (f : D → Env → Store → R (Fl × Env × Store)) : List D → Env → Store → R (Fl × Env × Store)
  | [], ρ, S => .ok (.nx, ρ, S)
  | d :: ds, ρ, S => (f d ρ S).bind fun p => match p.1 with
    | .nx => forL f ds p.2.1 p.2.2
    | .ct => forL f ds p.2.1 p.2.2
    | .bk => .ok (.nx, p.2)
    | .rt d => .ok (.rt d, p.2)
def forR (f : D → Env → Store → R (Fl × Env × Store)) (n len : Nat) : Nat → Nat → Env → Store → R (Fl × Env × Store)
  | 0, _, ρ, S => match S[n]? with
    | some (.lst ds) => if ds.length = len then .ok (.nx, ρ, S) else .bad
    | _ => .bad
  | m + 1, i, ρ, S => match S[n]? with
    | some (.lst ds) => if ds.length = len then match ds[i]? with
        | some d => (f d ρ S).bind fun p => match p.1 with
          | .nx => forR f n len m (i + 1) p.2.1 p.2.2
          | .ct => forR f n len m (i + 1) p.2.1 p.2.2
          | .bk => .ok (.nx, p.2)
          | .rt d => .ok (.rt d, p.2)
        | none => .bad
      else .bad
    | _ => .bad
def forI (f : D → Env → Store → R (Fl × Env × Store)) (it : Itr) (ρ : Env) (S : Store) : R (Fl × Env × Store) :=
  match it with
  | .sq ds => forL f ds ρ S
  | .rf n => match S[n]? with
    | some (.lst ds) => forR f n ds.length ds.length 0 ρ S
    | _ => .bad
def whlN (c : Env → Store → R (D × Store)) (f : Env → Store → R (Fl × Env × Store)) : Nat → Env → Store → R (Fl × Env × Store)
  | 0, _, _ => .bad
  | n + 1, ρ, S => (c ρ S).bind fun p => match p.1 with
    | .bl true => (f ρ p.2).bind fun q => match q.1 with
      | .nx => whlN c f n q.2.1 q.2.2
      | .ct => whlN c f n q.2.1 q.2.2
      | .bk => .ok (.nx, q.2)
      | .rt d => .ok (.rt d, q.2)
    | .bl false => .ok (.nx, ρ, p.2)
    | _ => .bad
mutual
def evS (G : Ctx) : S → Env → Store → R (Fl × Env × Store)
  | .asg g e, ρ, s => (evE G e ρ s).bind fun p => (asg G g p.1 ρ p.2).bind fun q => .ok (.nx, q)
  | .exp e, ρ, s => (evE G e ρ s).bind fun p => .ok (.nx, ρ, p.2)
  | .ite c a b, ρ, s => (evE G c ρ s).bind fun p => match p.1 with
    | .bl true => evSs G a ρ p.2
    | .bl false => evSs G b ρ p.2
    | _ => .bad
  | .fo g one k its body, ρ, s => (evEs G its ρ s).bind fun p => (itrD k p.1 p.2).bind fun it =>
      forI (fun d ρ s => (bindG g one d ρ).bind fun ρ' => evSs G body ρ' s) it ρ p.2
  | .whl c body, ρ, s => whlN (evE G c) (evSs G body) G.fuel ρ s
  | .ret e, ρ, s => (evE G e ρ s).bind fun p => .ok (.rt p.1, ρ, p.2)
  | .pas, ρ, s => .ok (.nx, ρ, s)
  | .brk, ρ, s => .ok (.bk, ρ, s)
  | .cnt, ρ, s => .ok (.ct, ρ, s)
  | .rse, _, _ => .bad
def evSs (G : Ctx) : List S → Env → Store → R (Fl × Env × Store)
  | [], ρ, s => .ok (.nx, ρ, s)
  | a :: as, ρ, s => (evS G a ρ s).bind fun p => match p.1 with
    | .nx => evSs G as p.2.1 p.2.2
    | _ => .ok p
end

/-- the program's defs, its constants -/
structure Pg where
  fn : Str → Option Fd
  glo : Str → Option D
  fuel : Nat
/-- the slots at a def's entry -/
def entry (d : Fd) (xs : List D) : Env := xs.map some ++ List.replicate (d.ns - d.ps) none
def runF (G : Ctx) (d : Fd) (xs : List D) (s : Store) : R (D × Store) :=
  if xs.length = d.ps then (evSs G d.body (entry d xs) s).bind fun p => match p.1 with
    | .rt v => .ok (v, p.2.2)
    | .nx => .ok (.non, p.2.2)
    | _ => .bad
  else .bad
/-- calls nested at most k deep -/
def callF (P : Pg) : Nat → Str → List D → Store → R (D × Store)
  | 0, _, _, _ => .bad
  | k + 1, f, xs, s => match P.fn f with
    | some d => runF ⟨callF P k, P.glo, P.fuel⟩ d xs s
    | none => .bad
end Z

set_option Elab.async false
set_option linter.all false
set_option maxRecDepth 100000
set_option maxHeartbeats 4000000
/-! Rel: how data stand in the heap. -/
namespace Z
open PySem L2 PySem.Spec PyProof.Rows

/-- the fixed things, and the world that a text's hash is of -/
structure KW where
  K : PySem.W.Frag
  w : World
abbrev KW.lookup (K : KW) (a : Addr) : Option Obj := K.K.lookup a
instance : Coe KW PySem.W.Frag := ⟨KW.K⟩
abbrev _root_.L2.Cx.kw (X : L2.Cx) : KW := ⟨X.K, X.w⟩
def toS (s : List Char) : Str := ⟨(s.map Char.toNat).toArray⟩
theorem toS_length (s : List Char) : (toS s).length = s.length := by
  show (s.map Char.toNat).toArray.size = _
  simp
def Off (al : Nat → Addr) (n : Nat) (U : List Addr) (a : Addr) : Prop := (∀ i, i < n → a ≠ al i) ∧ a ∉ U
/-- a tuple whose own object is known: without a dict -/
def TupR (H : Hp) (a : Addr) (xs : List V) : Prop := ∃ o, H a = some (.frz o (.tup xs)) ∧ o.dict = none
def TupAt (K : KW) (al : Nat → Addr) (n : Nat) (U : List Addr) (H : Hp) (a : Addr) (xs : List V) : Prop :=
  (TupR H a xs ∧ Off al n U a) ∨
    ∃ (o : Obj) (its : Array Value) (n : Nat), K.lookup a = some o ∧ o.cls = .type "tuple" ∧ o.dict = none ∧ o.data = .seq its n ∧ its.size ≤ sizeLine ∧ Vals xs its.toList
def LstAt (K : KW) (al : Nat → Addr) (n : Nat) (U : List Addr) (H : Hp) (a : Addr) (xs : List V) : Prop :=
  (Rd H a (.lst xs) ∧ Off al n U a) ∨
    ∃ (o : Obj) (its : Array Value) (n : Nat), K.lookup a = some o ∧ o.cls = .type "list" ∧ o.dict = none ∧ o.data = .seq its n ∧ its.size ≤ sizeLine ∧ Vals xs its.toList
section
variable {K : KW} {al al' al2 : Nat → Addr} {n n' n2 : Nat} {U : List Addr} {H H' H2 : Hp} {a p : Addr} {xs : List V}
theorem TupR.rd (h : TupR H a xs) : Rd H a (.tup xs) := let ⟨o, e, _⟩ := h; .inr ⟨o, e⟩
theorem TupAt.sq (h : TupAt K al n U H a xs) : SqT K H a xs := by
  rcases h with h | ⟨o, its, m, h1, h2, _, h4⟩
  · exact .inl h.1.rd
  · exact .inr ⟨o, its, m, h1, h2, h4⟩
theorem LstAt.sq (h : LstAt K al n U H a xs) : SqL K H a xs := by
  rcases h with h | h
  · exact .inl h.1
  · exact .inr h

mutual
def Rep (K : KW) (al : Nat → Addr) (n : Nat) (U : List Addr) (H : Hp) : D → V → Prop
  | .non, v => v = .non
  | .bl b, v => v = .bl b
  | .int i, v => v = .int i
  | .str s, v => v = .str (toS s) ∧ s.length ≤ sizeLine
  | .tup ds, v => ∃ a vs, v = .ref a ∧ TupAt K al n U H a vs ∧ ds.length ≤ sizeLine ∧ Reps K al n U H ds vs
  | .lst ds, v => ∃ a vs, v = .ref a ∧ LstAt K al n U H a vs ∧ ds.length ≤ sizeLine ∧ Reps K al n U H ds vs
  | .ref i, v => i < n ∧ v = .ref (al i)
  | .fn x, v => ∃ f, v = .ref f ∧ PySem.W.nsIn K.K mainGlobals x = some (some (.ref f))
def Reps (K : KW) (al : Nat → Addr) (n : Nat) (U : List Addr) (H : Hp) : List D → List V → Prop
  | [], vs => vs = []
  | d :: ds, vs => ∃ v r, vs = v :: r ∧ Rep K al n U H d v ∧ Reps K al n U H ds r
end

/-- from one state to a later one -/
structure Nxt (al : Nat → Addr) (n : Nat) (H : Hp) (al' : Nat → Addr) (n' : Nat) (H' : Hp) : Prop where
  ext : ∀ a o, H a = some o → (∀ i, i < n → a ≠ al i) → H' a = some o
  le : n ≤ n'
  agr : ∀ i, i < n → al' i = al i
  new : ∀ i, n ≤ i → i < n' → H (al' i) = none
theorem Nxt.refl : Nxt al n H al n H := ⟨fun _ _ e _ => e, Nat.le_refl _, fun _ _ => rfl, fun i h1 h2 => absurd h2 (Nat.not_lt.mpr h1)⟩
theorem Nxt.trans (h : Nxt al n H al' n' H') (g : Nxt al' n' H' al2 n2 H2) (hz : ∀ i, i < n → H (al i) ≠ none → H' (al' i) ≠ none) : Nxt al n H al2 n2 H2 := by
  refine ⟨fun a o e z => ?_, Nat.le_trans h.le g.le, fun i hi => ?_, fun i h1 h2 => ?_⟩
  · refine g.ext a o (h.ext a o e z) fun i hi => ?_
    by_cases hn : i < n
    · rw [h.agr i hn]; exact z i hn
    · intro q
      have := h.new i (by omega) hi
      rw [← q, e] at this
      cases this
  · rw [g.agr i (Nat.lt_of_lt_of_le hi h.le), h.agr i hi]
  · by_cases hn : i < n'
    · rw [g.agr i hn]; exact h.new i h1 hn
    · have q := g.new i (by omega) h2
      cases e : H (al2 i) with
      | none => rfl
      | some o =>
        by_cases hx : ∀ j, j < n → al2 i ≠ al j
        · rw [h.ext _ _ e hx] at q
          cases q
        · exfalso
          apply hx
          intro j hj ej
          rw [ej] at q e
          have := hz j hj (by rw [e]; exact fun z => nomatch z)
          rw [h.agr j hj] at this
          exact this q
theorem Off.nxt (h : Off al n U a) (g : Nxt al n H al' n' H') {o : HO} (e : H a = some o) : Off al' n' U a := by
  refine ⟨fun i hi => ?_, h.2⟩
  by_cases hn : i < n
  · rw [g.agr i hn]; exact h.1 i hn
  · intro q
    have := g.new i (by omega) hi
    rw [← q, e] at this
    cases this
theorem Rd.nxt {u : HO} (h : Rd H a u) (o : Off al n U a) (g : Nxt al n H al' n' H') : Rd H' a u ∧ Off al' n' U a := by
  rcases h with h | ⟨ob, h⟩
  · exact ⟨.inl (g.ext a _ h o.1), o.nxt g h⟩
  · exact ⟨.inr ⟨ob, g.ext a _ h o.1⟩, o.nxt g h⟩
theorem TupAt.nxt (h : TupAt K al n U H a xs) (g : Nxt al n H al' n' H') : TupAt K al' n' U H' a xs := by
  rcases h with ⟨⟨ob, h, hd⟩, o⟩ | h
  · exact .inl ⟨⟨ob, g.ext a _ h o.1, hd⟩, o.nxt g h⟩
  · exact .inr h
theorem LstAt.nxt (h : LstAt K al n U H a xs) (g : Nxt al n H al' n' H') : LstAt K al' n' U H' a xs := by
  rcases h with ⟨h, o⟩ | h
  · exact .inl (Rd.nxt h o g)
  · exact .inr h
mutual
theorem Rep.nxt (g : Nxt al n H al' n' H') : ∀ (d : D) (v : V), Rep K al n U H d v → Rep K al' n' U H' d v
  | .non, v, h => by simp only [Rep] at h ⊢; exact h
  | .bl b, v, h => by simp only [Rep] at h ⊢; exact h
  | .int i, v, h => by simp only [Rep] at h ⊢; exact h
  | .str s, v, h => by simp only [Rep] at h ⊢; exact h
  | .tup ds, v, h => by
    simp only [Rep] at h ⊢
    obtain ⟨a, vs, e, t, l, r⟩ := h
    exact ⟨a, vs, e, t.nxt g, l, Reps.nxt g ds vs r⟩
  | .lst ds, v, h => by
    simp only [Rep] at h ⊢
    obtain ⟨a, vs, e, t, l, r⟩ := h
    exact ⟨a, vs, e, t.nxt g, l, Reps.nxt g ds vs r⟩
  | .ref i, v, h => by
    simp only [Rep] at h ⊢
    exact ⟨Nat.lt_of_lt_of_le h.1 g.le, by rw [g.agr i h.1]; exact h.2⟩
  | .fn x, v, h => by
    simp only [Rep] at h ⊢
    exact h
theorem Reps.nxt (g : Nxt al n H al' n' H') : ∀ (ds : List D) (vs : List V), Reps K al n U H ds vs → Reps K al' n' U H' ds vs
  | [], vs, h => by simp only [Reps] at h ⊢; exact h
  | d :: ds, vs, h => by
    simp only [Reps] at h ⊢
    obtain ⟨v, r, e, h1, h2⟩ := h
    exact ⟨v, r, e, Rep.nxt g d v h1, Reps.nxt g ds r h2⟩
end
theorem Reps.length : ∀ {ds : List D} {vs : List V}, Reps K al n U H ds vs → ds.length = vs.length
  | [], vs, h => by simp only [Reps] at h; subst h; rfl
  | d :: ds, vs, h => by
    simp only [Reps] at h
    obtain ⟨v, r, e, _, h2⟩ := h
    subst e
    simp only [List.length_cons, Reps.length h2]
theorem Reps.get : ∀ {ds : List D} {vs : List V} {i : Nat} {d : D}, Reps K al n U H ds vs → ds[i]? = some d → ∃ v, vs[i]? = some v ∧ Rep K al n U H d v
  | [], _, _, _, _, e => by simp at e
  | d :: ds, vs, 0, _, h, e => by
    simp only [Reps] at h
    obtain ⟨v, r, rfl, h1, h2⟩ := h
    simp at e
    subst e
    exact ⟨v, rfl, h1⟩
  | d :: ds, vs, i + 1, _, h, e => by
    simp only [Reps] at h
    obtain ⟨v, r, rfl, h1, h2⟩ := h
    obtain ⟨u, e1, e2⟩ := Reps.get (i := i) h2 (by simpa using e)
    exact ⟨u, by simpa using e1, e2⟩
theorem Reps.append : ∀ {ds es : List D} {vs us : List V}, Reps K al n U H ds vs → Reps K al n U H es us → Reps K al n U H (ds ++ es) (vs ++ us)
  | [], _, _, _, h, g => by simp only [Reps] at h; subst h; exact g
  | d :: ds, _, _, _, h, g => by
    simp only [Reps] at h
    obtain ⟨v, r, rfl, h1, h2⟩ := h
    simp only [List.cons_append, Reps]
    exact ⟨v, _, rfl, h1, Reps.append h2 g⟩
theorem Reps.set {d : D} {v : V} (q : Rep K al n U H d v) : ∀ {ds : List D} {vs : List V} (i : Nat), Reps K al n U H ds vs → Reps K al n U H (ds.set i d) (vs.set i v)
  | [], _, _, h => by simp only [Reps] at h; subst h; simp [Reps]
  | _ :: _, _, 0, h => by
    simp only [Reps] at h
    obtain ⟨v, r, rfl, h1, h2⟩ := h
    simp only [List.set_cons_zero, Reps]
    exact ⟨_, _, rfl, q, h2⟩
  | _ :: _, _, i + 1, h => by
    simp only [Reps] at h
    obtain ⟨v, r, rfl, h1, h2⟩ := h
    simp only [List.set_cons_succ, Reps]
    exact ⟨_, _, rfl, h1, Reps.set q i h2⟩
theorem Reps.take : ∀ {ds : List D} {vs : List V} (i : Nat), Reps K al n U H ds vs → Reps K al n U H (ds.take i) (vs.take i)
  | _, _, 0, h => by simp [Reps]
  | [], _, _ + 1, h => by simp only [Reps] at h; subst h; simp [Reps]
  | _ :: _, _, i + 1, h => by
    simp only [Reps] at h
    obtain ⟨v, r, rfl, h1, h2⟩ := h
    simp only [List.take_succ_cons, Reps]
    exact ⟨_, _, rfl, h1, Reps.take i h2⟩
theorem Reps.drop : ∀ {ds : List D} {vs : List V} (i : Nat), Reps K al n U H ds vs → Reps K al n U H (ds.drop i) (vs.drop i)
  | _, _, 0, h => by simpa using h
  | [], _, _ + 1, h => by simp only [Reps] at h; subst h; simp [Reps]
  | _ :: _, _, i + 1, h => by
    simp only [Reps] at h
    obtain ⟨v, r, rfl, h1, h2⟩ := h
    simp only [List.drop_succ_cons]
    exact Reps.drop i h2
theorem Reps.cut {ds : List D} {vs : List V} (h : Reps K al n U H ds vs) (lo hi : Option Int) : Reps K al n U H (cut ds lo hi) (cutV vs lo hi) := by
  unfold Z.cut cutV
  rw [h.length]
  exact (h.drop _).take _

theorem Reps.rep {ds : List D} {vs : List V} (h : Reps K al n U H ds vs) : ∀ k : Nat, Reps K al n U H (List.replicate k ds).flatten (List.replicate k vs).flatten
  | 0 => by simp [Reps]
  | k + 1 => by
    rw [List.replicate_succ, List.replicate_succ, List.flatten_cons, List.flatten_cons]
    exact h.append (Reps.rep h k)
/-- an entry list of a dict -/
def keyD : D → Option Key
  | .int i => some (.inl i)
  | .str s => some (.inr (toS s))
  | _ => none
/-- a dict whose keys are tuples: what its one object holds -/
def ndP (w : World) (a : Addr) (xs : List (NestedKey × Addr × Value)) : Heap → Prop := fun h => ∃ o es ep, h.get? a = some o ∧ o.ExactDict ∧ o.data = .dict es ep ∧ es.toList = xs.map fun x => (⟨x.1.hash w, .ref x.2.1, x.2.2⟩ : DictEntry)
structure NdOk (a : Addr) (ks : List D) (bs us : List V) (xs : List (NestedKey × Addr × Value)) : Prop where
  sys : (a == sysModules) = false
  len : ks.length ≤ sizeLine
  nod : (xs.map (·.1)).Nodup
  key : ks.map keyN = xs.map fun x => some x.1
  ref : bs = xs.map fun x => V.ref x.2.1
  val : Vals us (xs.map (·.2.2))
def ObjRep (K : KW) (al : Nat → Addr) (n : Nat) (U : List Addr) (H : Hp) (a : Addr) : O → Prop
  | .lst ds => ∃ vs, H a = some (.lst vs) ∧ ds.length ≤ sizeLine ∧ Reps K al n U H ds vs
  | .dct ks vs => ∃ kvs : List (Key × V), H a = some (.dK kvs) ∧ ks.length ≤ sizeLine ∧ ks.map keyD = kvs.map (fun p => some p.1) ∧ Reps K al n U H vs (kvs.map (·.2)) ∧ (kvs.map (·.1)).Nodup ∧ ∀ s, D.str s ∈ ks → s.length ≤ sizeLine
  | .dcn ks vs => ∃ xs bs us, H a = some (.ext (ndP K.w a xs)) ∧ NdOk a ks bs us xs ∧ Reps K al n U H ks bs ∧ Reps K al n U H vs us
theorem ObjRep.some {a : Addr} {o : O} (h : ObjRep K al n U H a o) : H a ≠ none := by
  intro e
  cases o with
  | lst ds => obtain ⟨_, q, _⟩ := h; rw [e] at q; cases q
  | dct ks vs => obtain ⟨_, q, _⟩ := h; rw [e] at q; cases q
  | dcn ks vs => obtain ⟨_, _, _, q, _⟩ := h; rw [e] at q; cases q
theorem ObjRep.nxt {a : Addr} {o : O} (h : ObjRep K al n U H a o) (g : Nxt al n H al' n' H') (e : H' a = H a) : ObjRep K al' n' U H' a o := by
  cases o with
  | lst ds => obtain ⟨vs, q, l, r⟩ := h; exact ⟨vs, e.trans q, l, Reps.nxt g _ _ r⟩
  | dct ks vs => obtain ⟨kvs, q, l, r, s, t, w⟩ := h; exact ⟨kvs, e.trans q, l, r, Reps.nxt g _ _ s, t, w⟩
  | dcn ks vs => obtain ⟨xs, bs, us, q, l, r, s⟩ := h; exact ⟨xs, bs, us, e.trans q, l, Reps.nxt g _ _ r, Reps.nxt g _ _ s⟩

structure SR (K : KW) (al : Nat → Addr) (U : List Addr) (S : Store) (H : Hp) : Prop where
  inj : ∀ i j, i < S.length → j < S.length → al i = al j → i = j
  off : ∀ i, i < S.length → al i ∉ U
  liv : ∀ a ∈ U, H a ≠ none
  obj : ∀ i o, S[i]? = some o → ObjRep K al S.length U H (al i) o
variable {S S' S2 : Store}
theorem SR.at_ (h : SR K al U S H) {i : Nat} (hi : i < S.length) : H (al i) ≠ none := by
  have e : S[i]? = some S[i] := by simp [hi]
  exact (h.obj i _ e).some
theorem SR.trans (h : SR K al' U S' H') (g : Nxt al n H al' S'.length H') (g2 : Nxt al' S'.length H' al2 n2 H2) : Nxt al n H al2 n2 H2 :=
  g.trans g2 fun i hi _ => h.at_ (Nat.lt_of_lt_of_le hi g.le)
theorem SR.free (h : SR K al U S H) (hp : H p = none) : Off al S.length U p := by
  refine ⟨fun i hi e => h.at_ hi (by rw [← e]; exact hp), fun hu => h.liv p hu hp⟩
/-- a new object that never changes -/
theorem SR.lay (h : SR K al U S H) (hp : H p = none) (o : HO) : Nxt al S.length H al S.length (upd H p o) ∧ SR K al U S (upd H p o) := by
  have nx : Nxt al S.length H al S.length (upd H p o) := by
    refine ⟨fun a ob e z => ?_, Nat.le_refl _, fun _ _ => rfl, fun i h1 h2 => absurd h2 (Nat.not_lt.mpr h1)⟩
    rw [upd_ne (ne_of_none e hp)]
    exact e
  refine ⟨nx, h.inj, h.off, fun a ha e => ?_, fun i ob e => ?_⟩
  · refine h.liv a ha ?_
    by_cases q : a = p
    · subst q; rw [upd_same] at e; cases e
    · rw [upd_ne q] at e; exact e
  · refine (h.obj i ob e).nxt nx (upd_ne ?_)
    intro q
    exact (h.obj i ob e).some (by rw [q]; exact hp)
/-- the same heap, another reading of it -/
def ext1 (al : Nat → Addr) (n : Nat) (p : Addr) : Nat → Addr := fun i => if i = n then p else al i
/-- a new object that changes -/
theorem SR.make (h : SR K al U S H) (hp : H p = none) {ho : HO} {o : O} (hr : ∀ g : Nxt al S.length H (ext1 al S.length p) (S.length + 1) (upd H p ho), ObjRep K (ext1 al S.length p) (S.length + 1) U (upd H p ho) p o) :
    Nxt al S.length H (ext1 al S.length p) (S ++ [o]).length (upd H p ho) ∧ SR K (ext1 al S.length p) U (S ++ [o]) (upd H p ho) ∧ ext1 al S.length p S.length = p := by
  have hl : (S ++ [o]).length = S.length + 1 := by simp
  have e1 : ext1 al S.length p S.length = p := if_pos rfl
  have e2 : ∀ i, i < S.length → ext1 al S.length p i = al i := fun i hi => if_neg (by omega)
  have nx : Nxt al S.length H (ext1 al S.length p) (S.length + 1) (upd H p ho) := by
    refine ⟨fun a ob e z => ?_, by omega, e2, fun i h1 h2 => ?_⟩
    · rw [upd_ne (ne_of_none e hp)]
      exact e
    · have : i = S.length := by omega
      subst this
      rw [e1]
      exact hp
  rw [hl]
  refine ⟨nx, ⟨fun i j hi hj e => ?_, fun i hi => ?_, fun a ha e => ?_, fun i ob e => ?_⟩, e1⟩
  · rw [hl] at hi hj
    by_cases h1 : i < S.length <;> by_cases h2 : j < S.length
    · rw [e2 i h1, e2 j h2] at e; exact h.inj i j h1 h2 e
    · have : j = S.length := by omega
      subst this
      rw [e2 i h1, e1] at e
      exact absurd (show H (al i) = none by rw [e]; exact hp) (h.at_ h1)
    · have : i = S.length := by omega
      subst this
      rw [e2 j h2, e1] at e
      exact absurd (show H (al j) = none by rw [← e]; exact hp) (h.at_ h2)
    · omega
  · rw [hl] at hi
    by_cases h1 : i < S.length
    · rw [e2 i h1]; exact h.off i h1
    · have : i = S.length := by omega
      subst this
      rw [e1]
      exact fun hu => h.liv p hu hp
  · refine h.liv a ha ?_
    by_cases q : a = p
    · subst q; rw [upd_same] at e; cases e
    · rw [upd_ne q] at e; exact e
  · by_cases h1 : i < S.length
    · rw [List.getElem?_append_left h1] at e
      rw [e2 i h1, hl]
      refine (h.obj i ob e).nxt nx (upd_ne ?_)
      intro q
      exact h.at_ h1 (by rw [q]; exact hp)
    · have hi : i = S.length := by
        have := List.getElem?_eq_some_iff.mp e
        obtain ⟨q, _⟩ := this
        rw [hl] at q
        omega
      subst hi
      rw [List.getElem?_append_right (Nat.le_refl _)] at e
      simp at e
      subst e
      rw [e1, hl]
      exact hr nx
/-- a changing object is changed -/
theorem SR.put (h : SR K al U S H) {m : Nat} (hm : m < S.length) {ho : HO} {o : O} (hr : ∀ g : Nxt al S.length H al S.length (upd H (al m) ho), ObjRep K al S.length U (upd H (al m) ho) (al m) o) :
    Nxt al S.length H al (S.set m o).length (upd H (al m) ho) ∧ SR K al U (S.set m o) (upd H (al m) ho) := by
  have hl : (S.set m o).length = S.length := by simp
  have nx : Nxt al S.length H al S.length (upd H (al m) ho) := by
    refine ⟨fun a ob e z => ?_, Nat.le_refl _, fun _ _ => rfl, fun i h1 h2 => absurd h2 (Nat.not_lt.mpr h1)⟩
    rw [upd_ne (z m hm)]
    exact e
  rw [hl]
  refine ⟨nx, fun i j hi hj => by rw [hl] at hi hj; exact h.inj i j hi hj, fun i hi => by rw [hl] at hi; exact h.off i hi, fun a ha e => ?_, fun i ob e => ?_⟩
  · refine h.liv a ha ?_
    by_cases q : a = al m
    · subst q; rw [upd_same] at e; cases e
    · rw [upd_ne q] at e; exact e
  · rw [hl]
    by_cases hi : i = m
    · subst hi
      rw [List.getElem?_set_self hm] at e
      cases e
      exact hr nx
    · rw [List.getElem?_set_ne (Ne.symm hi)] at e
      have hil : i < S.length := by
        obtain ⟨q, _⟩ := List.getElem?_eq_some_iff.mp e
        exact q
      refine (h.obj i ob e).nxt nx (upd_ne ?_)
      intro q
      exact hi (h.inj i m hil hm q)
/-- more addresses that may change -/
theorem SR.more (h : SR K al U S H) (hp : H p = none) (ho : HO) (hU : ∀ i, i < S.length → p ≠ al i := (h.free hp).1) : True := trivial

def ER (K : KW) (al : Nat → Addr) (n : Nat) (U : List Addr) (H : Hp) (rho : Env) (si : List (Option V)) : Prop :=
  rho.length = si.length ∧ ∀ (i : Nat) (d : D), rho[i]? = some (some d) → ∃ v, si[i]? = some (some v) ∧ Rep K al n U H d v
theorem ER.nxt {rho : Env} {si : List (Option V)} (h : ER K al n U H rho si) (g : Nxt al n H al' n' H') : ER K al' n' U H' rho si :=
  ⟨h.1, fun i d e => let ⟨v, e1, r⟩ := h.2 i d e; ⟨v, e1, Rep.nxt g d v r⟩⟩
theorem ER.set {rho : Env} {si : List (Option V)} (h : ER K al n U H rho si) {d : D} {v : V} (r : Rep K al n U H d v) (i : Nat) : ER K al n U H (rho.set i (some d)) (si.set i (some v)) := by
  refine ⟨by simp [h.1], fun j e hj => ?_⟩
  by_cases q : i = j
  · subst q
    by_cases hi : i < rho.length
    · rw [List.getElem?_set_self hi] at hj
      cases hj
      exact ⟨v, by rw [List.getElem?_set_self (by rw [← h.1]; exact hi)], r⟩
    · rw [List.getElem?_eq_none (by simpa using hi)] at hj
      cases hj
  · rw [List.getElem?_set_ne q] at hj ⊢
    exact h.2 j e hj
theorem ER.wipe {rho : Env} {si : List (Option V)} (h : ER K al n U H rho si) : ∀ vs : List Nat, ER K al n U H (wipeE rho vs) (L2.wipe si vs)
  | [] => h
  | i :: vs => by
    have ih := ER.wipe h vs
    unfold wipeE L2.wipe
    refine ⟨by simp [ih.1], fun j e hj => ?_⟩
    by_cases q : i = j
    · subst q
      by_cases hi : i < (wipeE rho vs).length
      · rw [List.getElem?_set_self hi] at hj
        cases hj
      · rw [List.getElem?_eq_none (by simpa using hi)] at hj
        cases hj
    · rw [List.getElem?_set_ne q] at hj ⊢
      exact ih.2 j e hj
end
end Z

set_option Elab.async false
set_option linter.all false
set_option maxRecDepth 100000
set_option maxHeartbeats 4000000
/-! Ops: operators by values. -/
namespace Z
open PySem L2 PySem.Spec PyProof.Rows

def tOpD (K : KW) (g : D → D → Store → R (D × Store)) : R2 := fun x y H Q => ∃ al U S a b d S',
  SR K al U S H ∧ Rep K al S.length U H a x ∧ Rep K al S.length U H b y ∧ g a b S = .ok (d, S') ∧
  ∀ v H' al', Nxt al S.length H al' S'.length H' → SR K al' U S' H' → Rep K al' S'.length U H' d v → Q v H'

def opA : Op → Operator
  | .add => .Add | .sub => .Sub | .mul => .Mult | .mod => .Mod | .pow => .Pow | .fdiv => .FloorDiv | .band => .BitAnd | .shr => .RShift | .shl => .LShift | .addm => .Add

theorem toS_app (x y : List Char) : toS x ++ toS y = toS (x ++ y) := by
  show (⟨(x.map Char.toNat).toArray ++ (y.map Char.toNat).toArray⟩ : Str) = ⟨((x ++ y).map Char.toNat).toArray⟩
  simp
section
variable {X : Cx}
theorem mulOk {i j : Int} (h : i.natAbs.log2 + j.natAbs.log2 < 100000000) : IntMulOk i j := by
  have b : ∀ x : Int, Builtin.Int.intBits x ≤ x.natAbs.log2 + 1 := fun x => by
    unfold Builtin.Int.intBits
    split <;> omega
  have h1 := b i
  have h2 := b j
  have e : bitsLine = 134217728 := by decide
  unfold IntMulOk
  intro z
  rw [Bool.and_eq_true] at z
  have z2 := z.2
  unfold Builtin.Int.intTooBig at z2
  have z3 := of_decide_eq_true z2
  rw [e] at z3
  omega
theorem Rep.tup_new {K : KW} {al : Nat → Addr} {U : List Addr} {S : Store} {H : Hp} {p : Addr} {o : Obj} {ds : List D} {vs : List V} (sr : SR K al U S H) (hp : H p = none) (ho : o.dict = none) (hl : ds.length ≤ sizeLine)
    (r : Reps K al S.length U (upd H p (.frz o (.tup vs))) ds vs) : Rep K al S.length U (upd H p (.frz o (.tup vs))) (.tup ds) (.ref p) := by
  simp only [Rep]
  exact ⟨p, vs, rfl, .inl ⟨⟨o, upd_same, ho⟩, sr.free hp⟩, hl, r⟩
/-- what is laid where a tuple is made -/
def NewT (H : Hp) (vs : List V) (Q : VK) : Prop := ∀ (p : Addr) (o : Obj), H p = none → o.dict = none → Q (.ref p) (upd H p (.frz o (.tup vs)))
theorem lay_tup {X : Cx} {pins : List (Addr × Obj)} {σ : L2.St} {H : Hp} {s : Shared} {vs : List V} {its : List Value} {Q : VK} (I : Inv X pins σ H s) (r : Vals vs its) (hz : vs.length ≤ sizeLine) (q : NewT H vs Q) :
    EP X pins σ Q (.ref s.heap.objs.size) { s with heap := s.heap.push { cls := .type "tuple", data := .seq its.toArray } } :=
  ⟨.ref s.heap.objs.size, _, I.laid (t' := s.toks) (o := .frz { cls := .type "tuple", data := .seq its.toArray } (.tup vs)) (fun _ _ e => Heap.get?_push_of_some _ e) (Nat.le_refl _) ⟨Heap.get?_push_size _ rfl, hz, its, r, IsTup.new _ _⟩, rfl, q _ _ (I.hok.fresh (Nat.le_refl _)) rfl⟩
theorem Rep.lst_new {K : KW} {al : Nat → Addr} {U : List Addr} {S : Store} {H : Hp} {p : Addr} {ds : List D} {vs : List V} (sr : SR K al U S H) (hp : H p = none) (hl : ds.length ≤ sizeLine)
    (r : Reps K al S.length U (upd H p (.lst vs)) ds vs) : Rep K al S.length U (upd H p (.lst vs)) (.lst ds) (.ref p) := by
  simp only [Rep]
  exact ⟨p, vs, rfl, .inl ⟨.inl upd_same, sr.free hp⟩, hl, r⟩
/-- what is wanted of a new tuple -/
theorem new_tup {K : KW} {al : Nat → Addr} {U : List Addr} {S : Store} {H : Hp} {ds : List D} {vs : List V} {Q : VK} (sr : SR K al U S H) (hl : ds.length ≤ sizeLine) (r : Reps K al S.length U H ds vs)
    (q : ∀ v H' al', Nxt al S.length H al' S.length H' → SR K al' U S H' → Rep K al' S.length U H' (.tup ds) v → Q v H') : NewT H vs Q := by
  intro p o hp ho
  obtain ⟨n1, s1⟩ := sr.lay hp (.frz o (.tup vs))
  exact q _ _ al n1 s1 (Rep.tup_new sr hp ho hl (Reps.nxt n1 _ _ r))
theorem new_lst {K : KW} {al : Nat → Addr} {U : List Addr} {S : Store} {H : Hp} {ds : List D} {vs : List V} {Q : VK} (sr : SR K al U S H) (hl : ds.length ≤ sizeLine) (r : Reps K al S.length U H ds vs)
    (q : ∀ v H' al', Nxt al S.length H al' S.length H' → SR K al' U S H' → Rep K al' S.length U H' (.lst ds) v → Q v H') : ∀ p, H p = none → Q (.ref p) (upd H p (.lst vs)) := by
  intro p hp
  obtain ⟨n1, s1⟩ := sr.lay hp (.lst vs)
  exact q _ _ al n1 s1 (Rep.lst_new sr hp hl (Reps.nxt n1 _ _ r))
/-- a new list: one of the store, or one that stays -/
theorem new_lit {K : KW} {al : Nat → Addr} {U : List Addr} {S S' : Store} {H : Hp} {m : Bool} {ds : List D} {d : D} {vs : List V} {Q : VK} (sr : SR K al U S H) (e : litD m ds S = .ok (d, S')) (hl : ds.length ≤ sizeLine) (r : Reps K al S.length U H ds vs)
    (q : ∀ v H' al', Nxt al S.length H al' S'.length H' → SR K al' U S' H' → Rep K al' S'.length U H' d v → Q v H') : ∀ p, H p = none → Q (.ref p) (upd H p (.lst vs)) := by
  unfold litD at e
  cases m with
  | false =>
    simp at e
    obtain ⟨rfl, rfl⟩ := e
    exact new_lst sr hl r q
  | true =>
    simp at e
    obtain ⟨rfl, rfl⟩ := e
    intro p hp
    obtain ⟨n1, s1, e1⟩ := sr.make (ho := .lst vs) (o := .lst ds) hp (fun g => ⟨vs, upd_same, hl, Reps.nxt g _ _ r⟩)
    refine q _ _ _ n1 s1 ?_
    simp only [Rep]
    exact ⟨by simp, by rw [e1]⟩

/-- tuple + tuple: one that is empty leaves the other one -/
theorem op_catTP : OpR X (binaryOp .Add) (fun x y H Q => ∃ a b xs ys, x = .ref a ∧ y = .ref b ∧ SqT X.kw H a xs ∧ SqT X.kw H b ys ∧ xs.length + ys.length ≤ sizeLine ∧
    (xs = [] → Q (.ref b) H) ∧ (ys = [] → Q (.ref a) H) ∧ NewT H (xs ++ ys) Q) := by
  intro pins s σ H x y v u Q I rx ry ⟨a, b, xs, ys, ex, ey, ha, hb, hz, q0, q1, q2⟩
  subst ex ey
  cases rx
  cases ry
  obtain ⟨its, r1, p1, _⟩ := I.tuple ha
  obtain ⟨js, r2, p2, _⟩ := I.tuple hb
  by_cases hx : its = []
  · subst hx
    have e0 : xs = [] := r1.nil_iff.mp rfl
    exact cat_tup0 p1 p2 ⟨.ref b, H, I, rfl, q0 e0⟩
  · exact HT.cat_tup p1 p2 hx (fun z => ⟨.ref a, H, I, rfl, q1 (r2.nil_iff.mp z)⟩) (fun _ => lay_tup I (r1.append r2) (by rw [List.length_append]; exact hz) q2) (by rw [← r1.length, ← r2.length]; exact hz)
/-- t[lo:hi] of a tuple -/
theorem sl_tupP : SlR X (fun x lo hi H Q => ∃ a xs, x = .ref a ∧ SqT X.kw H a xs ∧ (HT.sIx xs.length 0 lo = 0 ∧ HT.sIx xs.length xs.length hi = xs.length → Q (.ref a) H) ∧ NewT H (cutV xs lo hi) Q) := by
  intro pins s σ H x v vl vu lo hi sl Q I rx hs pl pu ⟨a, xs, ex, hx, q1, q2⟩
  subst ex
  cases rx
  obtain ⟨its, r, ht, hz⟩ := I.tuple hx
  have hn : its.toArray.size = xs.length := by rw [List.size_toArray]; exact r.length.symm
  refine ⟨"tuple", _, PyProof.Rows.slot_tuple_getitem.lookup, ht.typeIs, ?_⟩
  by_cases hw : HT.sIx xs.length 0 lo = 0 ∧ HT.sIx xs.length xs.length hi = xs.length
  · exact getItem_tuple_whole ht hs pl pu (by rw [hn]; exact hw) ⟨.ref a, H, I, rfl, q1 hw⟩
  · refine HT.getItem_tuple_cut ht hs pl pu (by rw [hn]; exact hw) ?_ (by rw [hn]; exact hz)
    rw [hn]
    exact lay_tup I ((r.drop _).take _) (Nat.le_trans (cutV_length xs lo hi) hz) q2
/-- text * number -/
theorem op_mulS : OpR X (binaryOp .Mult) (fun x y H Q => ∃ (z : List Char) (j : Int), x = .str (toS z) ∧ y = .int j ∧ 0 ≤ j ∧ j ≤ 1000 ∧ z.length ≤ 10000 ∧ Q (.str (toS (List.replicate j.toNat z).flatten)) H) := by
  intro pins s σ H x y v u Q I rx ry ⟨z, j, ex, ey, h1, h2, h3, q⟩
  subst ex ey
  obtain ⟨t, rfl⟩ := rx
  obtain ⟨t2, rfl⟩ := ry
  have hl : (toS z).length = z.length := toS_length z
  have hz : sizeLine = 16777216 := by decide
  have hm : z.length * j.toNat ≤ 10000 * 1000 := Nat.mul_le_mul h3 (by omega)
  have fr : ∀ m : Nat, (List.replicate m (toS z).cps).foldl (· ++ ·) #[] = (toS (List.replicate m z).flatten).cps := by
    intro m
    have g : ∀ (m : Nat) (acc : Array Nat), (List.replicate m (toS z).cps).foldl (· ++ ·) acc = acc ++ (toS (List.replicate m z).flatten).cps := by
      intro m
      induction m with
      | zero => intro acc; simp [toS]
      | succ m ih =>
        intro acc
        rw [List.replicate_succ, List.foldl_cons, ih, List.replicate_succ, List.flatten_cons, ← toS_app, Array.append_assoc]
        rfl
    rw [g m #[]]
    simp
  refine PySem.P.mul_str ?_ (fun _ _ => ?_) (fun _ _ => ?_) ?_
  · have e1 : ¬ j < -(2 ^ 63 : Int) := by omega
    have e2 : ¬ j ≥ 2 ^ 63 := by omega
    rw [decide_eq_false e1, decide_eq_false e2]
    rfl
  · rw [hl]
    rename_i hj _
    have hj' : 0 < j := by omega
    have e3 : (z.length : Int) ≤ (2 ^ 63 - 1) / j := by
      rw [Int.le_ediv_iff_mul_le hj']
      have : ((z.length : Int)) * j ≤ 10000 * 1000 := Int.mul_le_mul (by omega) h2 (by omega) (by omega)
      omega
    omega
  · rw [hl]
    unfold Builtin.Str.tooLong
    simp only [decide_eq_false_iff_not]
    omega
  · by_cases hj : j < 1
    · rw [if_pos hj]
      have : j = 0 := by omega
      subst this
      exact ⟨by decide, ⟨.str (toS (List.replicate (0 : Int).toNat z).flatten), H, I.tok _, ⟨_, rfl⟩, q⟩⟩
    · rw [if_neg hj]
      by_cases hc : (j == 1 || (toS z).length == 0) = true
      · rw [if_pos hc]
        refine ⟨.str (toS z), H, I, ⟨_, rfl⟩, ?_⟩
        have e4 : (List.replicate j.toNat z).flatten = z := by
          rw [Bool.or_eq_true, beq_iff_eq, beq_iff_eq, hl] at hc
          rcases hc with rfl | hc
          · simp
          · rw [List.eq_nil_of_length_eq_zero hc]
            simp
        rw [e4] at q
        exact q
      · rw [if_neg hc, fr]
        refine ⟨?_, ⟨.str (toS (List.replicate j.toNat z).flatten), H, I.tok _, ⟨_, rfl⟩, q⟩⟩
        show (toS (List.replicate j.toNat z).flatten).length ≤ sizeLine
        rw [toS_length, List.length_flatten, List.map_replicate, List.sum_replicate_nat, Nat.mul_comm]
        omega
/-- tuple * number -/
theorem op_mulT : OpR X (binaryOp .Mult) (fun x y H Q => ∃ (l : Addr) (j : Int) (xs : List V), x = .ref l ∧ y = .int j ∧ SqT X.kw H l xs ∧ xs ≠ [] ∧ 2 ≤ j ∧ j ≤ 1000 ∧ xs.length ≤ 1000 ∧ NewT H (List.replicate j.toNat xs).flatten Q) := by
  intro pins s σ H x y v u Q I rx ry ⟨l, j, xs, ex, ey, hT, hne, h1, h2, hz, q⟩
  subst ex ey
  cases rx
  obtain ⟨t, rfl⟩ := ry
  obtain ⟨vs, r, ⟨⟨cls, dd, data, sl⟩, ho, hc, n, hd⟩, _⟩ := I.tuple hT
  simp only at hc hd
  subst hc hd
  have hle := r.length
  have emp : vs.toArray.isEmpty = false := by
    cases vs with
    | nil => exact absurd (List.eq_nil_of_length_eq_zero (by rw [hle]; rfl)) hne
    | cons _ _ => rfl
  have size : vs.toArray.size = xs.length := by rw [List.size_toArray, hle]
  have all : (List.replicate j.toNat xs).flatten.length ≤ 1000000 := by
    rw [PyProof.Rows.lm_len_rep_flat]
    have a1 : j.toNat * xs.length ≤ 1000 * 1000 := Nat.mul_le_mul (by omega) hz
    omega
  have all2 : (List.replicate j.toNat vs).flatten.length ≤ 1000000 := by
    rw [PyProof.Rows.lm_len_rep_flat, ← hle]
    rw [PyProof.Rows.lm_len_rep_flat] at all
    exact all
  have mult : ((vs.toArray.size : Nat) : Int) * j ≤ 1000000 := by
    rw [size]
    have a1 : ((xs.length : Nat) : Int) * j ≤ 1000 * j := Int.mul_le_mul_of_nonneg_right (by omega) (by omega)
    omega
  have line := sizeLine_eq
  have d0 : (decide (j < -(2 ^ 63)) || decide (j ≥ 2 ^ 63)) = false := by
    rw [Bool.or_eq_false_iff]
    exact ⟨decide_eq_false (by omega), decide_eq_false (by omega)⟩
  have d1 : (vs.toArray.isEmpty || j == 1) = false := by
    rw [Bool.or_eq_false_iff]
    exact ⟨emp, beq_eq_false_iff_ne.mpr (by omega)⟩
  have d2 : (decide (j ≤ 0) || vs.toArray.isEmpty) = false := by
    rw [Bool.or_eq_false_iff]
    exact ⟨decide_eq_false (by omega), emp⟩
  have d4 : Builtin.Tuple.tupleTooMany (((vs.toArray.size : Nat) : Int) * j) = false := by
    unfold Builtin.Tuple.tupleTooMany
    exact decide_eq_false (by omega)
  have fin : EP X pins σ Q (.ref s.heap.objs.size) { s with heap := s.heap.push { cls := .type "tuple", data := .seq (List.replicate j.toNat vs).flatten.toArray } } :=
    lay_tup I (r.rep j.toNat) (by omega) q
  have inner := tuple_mulW l vs.toArray n dd sl j t d0 d1 d2 (by omega) d4 (by rw [size_rep, List.size_toArray]; omega)
  refine wpAny_binaryOp_repeat_ref (T := "tuple") (U := "int") (by decide) ⟨_, ho, rfl⟩ (fun s' => typeIs_int s' j t) noFill_tuple_mul PySem.F.fills_int_mul PySem.F.slot_int_rmul repeat_tuple PySem.F.slot_int_index.lookup (call_meets PySem.F.slot_int_rmul (typeIs_int s j t) PySem.F.entry_int_rmul (PySem.F.args_int_rmul_2 _ _) (int_rmul_tuple j t l vs.toArray n dd sl) ⟨ho, rfl, ⟨_, ho, rfl⟩, ?_⟩)
  refine call_meets PySem.F.slot_tuple_mul ⟨_, ho, rfl⟩ PySem.F.entry_tuple_mul (PySem.F.args_tuple_mul_2 _ _) inner ⟨ho, ?_⟩
  rw [size_rep]
  exact fin
/-- list + list, read -/
theorem op_catL : OpR X (binaryOp .Add) (fun x y H Q => ∃ l b xs zs, x = .ref l ∧ y = .ref b ∧ SqL X.kw H l xs ∧ SqL X.kw H b zs ∧ xs.length + zs.length ≤ sizeLine ∧ ∀ p, H p = none → Q (.ref p) (upd H p (.lst (xs ++ zs)))) := by
  intro pins s σ H x y v u Q I rx ry h
  obtain ⟨l, b, xs, zs, rfl, rfl, hH, hB, hz, q⟩ := h
  cases rx
  cases ry
  obtain ⟨its, r, ⟨⟨cls, dd, data, sl⟩, n, ho, hc, hd0, hd⟩, z⟩ := I.list hH
  obtain ⟨its2, r2, ⟨⟨cls2, dd2, data2, sl2⟩, n2, ho2, hc2, hd02, hd2⟩, z2⟩ := I.list hB
  simp only at hc hd0 hd hc2 hd02 hd2
  subst hc hd0 hd hc2 hd02 hd2
  have hl := r.length
  have hl2 := r2.length
  have ea : its.toArray ++ its2.toArray = (its ++ its2).toArray := by simp
  refine concat_meets ⟨_, ho, rfl⟩ ⟨_, ho2, rfl⟩ noFill_list_add seq_list_add PySem.F.slot_list_add PySem.F.entry_list_add (PySem.F.args_list_add_2 _ _) (list_addW l b its.toArray its2.toArray n n2 none none sl sl2 (by simp; omega)) ⟨ho, ho2, ?_⟩
  rw [ea]
  exact ⟨.ref _, _, I.lnew (t' := s.toks) (r.append r2) (by rw [List.length_append]; omega), rfl, q _ I.fresh⟩
theorem op_mulB : OpR X (binaryOp .Mult) (rI (fun i j => i.natAbs.log2 + j.natAbs.log2 < 100000000) fun i j => .int (i * j)) := opI fun _ _ _ _ _ _ _ hc q => mul_int q (mulOk hc)

theorem ls_sq {K : KW} {al : Nat → Addr} {U : List Addr} {S : Store} {H : Hp} {a : D} {x : V} {ds : List D} (sr : SR K al U S H) (ra : Rep K al S.length U H a x) (e : lsD S a = some ds) :
    ∃ p vs, x = .ref p ∧ SqL K H p vs ∧ ds.length ≤ sizeLine ∧ Reps K al S.length U H ds vs := by
  cases a with
  | lst es =>
    cases e
    simp only [Rep] at ra
    obtain ⟨p, vs, rfl, t, l, r⟩ := ra
    exact ⟨p, vs, rfl, t.sq, l, r⟩
  | ref m =>
    simp only [Rep] at ra
    obtain ⟨hm, rfl⟩ := ra
    unfold lsD at e
    cases ho : S[m]? with
    | none => simp [ho] at e
    | some ob =>
      cases ob with
      | lst es =>
        simp only [ho, Option.some.injEq] at e
        subst e
        obtain ⟨vs, h1, l, rs⟩ := sr.obj m _ ho
        exact ⟨_, vs, rfl, SqL.of h1, l, rs⟩
      | _ => simp [ho] at e
  | _ => cases e
theorem op_catD {m : Bool} (pins : List (Addr × Obj)) (s : Shared) (σ : L2.St) (H : Hp) (x y : V) (v u : Value) (Q : VK) (I : Inv X pins σ H s) (rx : RelV x v) (ry : RelV y u) {al : Nat → Addr} {U : List Addr} {S S' : Store} {a b d : D} (sr : SR X.kw al U S H) (ra : Rep X.kw al S.length U H a x) (rb : Rep X.kw al S.length U H b y) (e : catD m a b S = .ok (d, S'))
    (q : ∀ v H' al', Nxt al S.length H al' S'.length H' → SR X.kw al' U S' H' → Rep X.kw al' S'.length U H' d v → Q v H') : wpAny (model X.prog X.w) X.A (binaryOp .Add v u) (EP X pins σ Q) X.xe s := by
  unfold catD at e
  split at e
  · rename_i xs ys ex ey
    split at e
    · rename_i hz
      obtain ⟨p1, vs, rfl, t1, l1, r1⟩ := ls_sq sr ra ex
      obtain ⟨p2, ws, rfl, t2, l2, r2⟩ := ls_sq sr rb ey
      have h1 := r1.length
      have h2 := r2.length
      exact op_catL pins s σ H _ _ v u Q I rx ry ⟨_, _, _, _, rfl, rfl, t1, t2, by omega, new_lit sr e (by simpa using hz) (r1.append r2) q⟩
    · cases e
  · cases e
theorem op_D (o : Op) : OpR X (binaryOp (opA o)) (tOpD X.kw (binD o)) := by
  intro pins s σ H x y v u Q I rx ry ⟨al, U, S, a, b, d, S', sr, ra, rb, e, q⟩
  unfold binD at e
  split at e
  · simp only [Rep] at ra rb
    cases e
    exact op_add pins s σ H x y v u Q I rx ry ⟨_, _, ra, rb, q _ _ _ .refl sr (by simp only [Rep])⟩
  · simp only [Rep] at ra rb
    split at e <;> cases e
    rename_i hz
    refine op_add_str pins s σ H x y v u Q I rx ry ⟨_, _, ra.1, rb.1, by rw [toS_length, toS_length]; exact hz, ?_⟩
    rw [toS_app]
    exact q _ _ _ .refl sr (by simp only [Rep]; exact ⟨trivial, by simpa using hz⟩)
  · simp only [Rep] at ra rb
    split at e <;> cases e
    rename_i hz
    obtain ⟨p1, vs, rfl, t1, l1, r1⟩ := ra
    obtain ⟨p2, ws, rfl, t2, l2, r2⟩ := rb
    have h1 := r1.length
    have h2 := r2.length
    have nl : ∀ (ys : List D), ys.length = 0 → ys = [] := fun ys => List.eq_nil_of_length_eq_zero
    rename_i x' y'
    refine op_catTP pins s σ H _ _ v u Q I rx ry ⟨_, _, _, _, rfl, rfl, t1.sq, t2.sq, by omega, fun z => ?_, fun z => ?_, new_tup sr (by simpa using hz) (r1.append r2) q⟩
    · refine q _ _ _ .refl sr ?_
      have ex : x' = [] := nl _ (by rw [h1, z]; rfl)
      rw [ex, List.nil_append]
      simp only [Rep]
      exact ⟨_, _, rfl, t2, l2, r2⟩
    · refine q _ _ _ .refl sr ?_
      have ey : y' = [] := nl _ (by rw [h2, z]; rfl)
      rw [ey, List.append_nil]
      simp only [Rep]
      exact ⟨_, _, rfl, t1, l1, r1⟩
  · simp only [Rep] at ra rb
    split at e <;> cases e
    rename_i hz
    obtain ⟨p1, vs, rfl, t1, l1, r1⟩ := ra
    obtain ⟨p2, ws, rfl, t2, l2, r2⟩ := rb
    have h1 := r1.length
    have h2 := r2.length
    exact op_catL pins s σ H _ _ v u Q I rx ry ⟨_, _, _, _, rfl, rfl, t1.sq, t2.sq, by omega, new_lst sr (by simpa using hz) (r1.append r2) q⟩
  · simp only [Rep] at ra rb
    split at e <;> cases e
    rename_i hz
    obtain ⟨p1, vs, rfl, t1, l1, r1⟩ := ra
    obtain ⟨p2, ws, rfl, t2, l2, r2⟩ := rb
    have h1 := r1.length
    have h2 := r2.length
    exact op_catL pins s σ H _ _ v u Q I rx ry ⟨_, _, _, _, rfl, rfl, t1.sq, t2.sq, by omega, new_lit (m := true) sr rfl (by simpa using hz) (r1.append r2) q⟩
  · exact op_catD pins s σ H x y v u Q I rx ry sr ra rb e q
  · exact op_catD pins s σ H x y v u Q I rx ry sr ra rb e q
  · exact op_catD pins s σ H x y v u Q I rx ry sr ra rb e q
  · exact op_catD pins s σ H x y v u Q I rx ry sr ra rb e q
  · simp only [Rep] at ra rb
    cases e
    exact op_sub pins s σ H x y v u Q I rx ry ⟨_, _, ra, rb, q _ _ _ .refl sr (by simp only [Rep])⟩
  · simp only [Rep] at ra rb
    split at e <;> cases e
    rename_i hz
    exact op_mulB pins s σ H x y v u Q I rx ry ⟨_, _, ra, rb, hz, q _ _ _ .refl sr (by simp only [Rep])⟩
  · simp only [Rep] at ra rb
    split at e <;> cases e
    rename_i hz
    refine op_mulS pins s σ H x y v u Q I rx ry ⟨_, _, ra.1, rb, hz.1, hz.2.1, hz.2.2, q _ _ _ .refl sr ?_⟩
    simp only [Rep]
    refine ⟨trivial, ?_⟩
    rw [List.length_flatten, List.map_replicate, List.sum_replicate_nat]
    rename_i x' j'
    have h1 : j'.toNat * x'.length ≤ 1000 * 10000 := Nat.mul_le_mul (by omega) hz.2.2
    have h2 : sizeLine = 16777216 := by decide
    exact Nat.le_trans h1 (by omega)
  · simp only [Rep] at ra rb
    split at e <;> cases e
    rename_i hz
    obtain ⟨p1, vs, rfl, t1, l1, r1⟩ := ra
    have hle := r1.length
    refine op_mulT pins s σ H _ y v u Q I rx ry ⟨_, _, vs, rfl, rb, t1.sq, fun z => hz.1 (List.eq_nil_of_length_eq_zero (by rw [hle, z]; rfl)), hz.2.1, hz.2.2.1, by omega, new_tup sr ?_ (Reps.rep r1 _) q⟩
    rw [PyProof.Rows.lm_len_rep_flat]
    rename_i x' j'
    have a1 : j'.toNat * x'.length ≤ 1000 * 1000 := Nat.mul_le_mul (by omega) hz.2.2.2
    have h2 : sizeLine = 16777216 := by decide
    omega
  · simp only [Rep] at ra rb
    split at e <;> cases e
    rename_i hz
    exact op_modN pins s σ H x y v u Q I rx ry ⟨_, _, ra, rb, hz, q _ _ _ .refl sr (by simp only [Rep])⟩
  · simp only [Rep] at ra rb
    split at e <;> cases e
    rename_i hz
    exact op_pow pins s σ H x y v u Q I rx ry ⟨_, _, ra, rb, hz, q _ _ _ .refl sr (by simp only [Rep])⟩
  · simp only [Rep] at ra rb
    split at e <;> cases e
    rename_i hz
    exact op_shl pins s σ H x y v u Q I rx ry ⟨_, _, ra, rb, hz, q _ _ _ .refl sr (by simp only [Rep])⟩
  · simp only [Rep] at ra rb
    split at e <;> cases e
    rename_i hz
    exact op_shr pins s σ H x y v u Q I rx ry ⟨_, _, ra, rb, hz, q _ _ _ .refl sr (by simp only [Rep])⟩
  · simp only [Rep] at ra rb
    cases e
    exact op_and pins s σ H x y v u Q I rx ry ⟨_, _, ra, rb, q _ _ _ .refl sr (by simp only [Rep])⟩
  · cases e
end
end Z

set_option Elab.async false
set_option linter.all false
set_option maxRecDepth 100000
set_option maxHeartbeats 4000000
/-! Nest: dicts whose keys are tuples of any depth. -/
namespace Z
open PySem L2 PySem.Spec PyProof.Rows

section
variable {X : Cx} {pins : List (Addr × Obj)} {σ : L2.St} {H : Hp} {s : Shared} {al : Nat → Addr} {n : Nat} {U : List Addr}
mutual
theorem nested_of (I : Inv X pins σ H s) : ∀ (d : D) (v : V) (u : Value) (k : NestedKey), Rep X.kw al n U H d v → RelV v u → nkD d = some k → NestedIs s.heap k u
  | .non, v, u, k, r, ru, e => by
    simp only [Rep] at r
    subst r
    simp only [nkD, Option.some.injEq] at e
    subst e
    obtain rfl : u = .none := ru
    exact .none
  | .bl b, v, u, k, r, ru, e => by
    simp only [Rep] at r
    subst r
    simp only [nkD, Option.some.injEq] at e
    subst e
    obtain rfl : u = .bool b := ru
    exact .bool rfl
  | .int i, v, u, k, r, ru, e => by
    simp only [Rep] at r
    subst r
    simp only [nkD, Option.some.injEq] at e
    subst e
    obtain ⟨t, rfl⟩ : ∃ t, u = .int i t := ru
    exact .int _ _
  | .str x, v, u, k, r, ru, e => by
    simp only [Rep] at r
    simp only [nkD, Option.some.injEq] at e
    subst e
    rw [r.1] at ru
    obtain ⟨t, rfl⟩ : ∃ t, u = .str (toS x) t := ru
    exact .text _ _
  | .tup ds, v, u, k, r, ru, e => by
    simp only [Rep] at r
    obtain ⟨a, vs, rfl, t, l, rs⟩ := r
    obtain rfl : u = .ref a := ru
    simp only [nkD] at e
    obtain ⟨ks, e1, rfl⟩ := Option.map_eq_some_iff.mp e
    obtain ⟨its, rv, ⟨o, ho, hc, m, hd⟩, _⟩ := I.tuple t.sq
    exact .tup ho hc hd (by simpa using nesteds_of I ds vs its ks rs rv e1)
  | .lst _, _, _, _, _, _, e => by simp [nkD] at e
  | .ref _, _, _, _, _, _, e => by simp [nkD] at e
theorem nesteds_of (I : Inv X pins σ H s) : ∀ (ds : List D) (vs : List V) (us : List Value) (ks : List NestedKey), Reps X.kw al n U H ds vs → Vals vs us → nkDs ds = some ks → NestedAll s.heap ks us
  | [], vs, us, ks, r, ru, e => by
    simp only [Reps] at r
    subst r
    cases ru
    simp only [nkDs, Option.some.injEq] at e
    subst e
    exact .nil
  | d :: ds, vs, us, ks, r, ru, e => by
    simp only [Reps] at r
    obtain ⟨v, r', rfl, r1, r2⟩ := r
    cases ru with
    | cons h t =>
      simp only [nkDs] at e
      obtain ⟨k, e1, e2⟩ := Option.bind_eq_some_iff.mp e
      obtain ⟨ks', e3, rfl⟩ := Option.map_eq_some_iff.mp e2
      exact .cons (nested_of I d v _ k r1 h e1) (nesteds_of I ds r' _ ks' r2 t e3)
end
theorem keyN_some {d : D} {k : NestedKey} (h : keyN d = some k) : nkD d = some k ∧ k.depth ≤ 8 ∧ ∃ ds, d = .tup ds := by
  cases d with
  | tup ds =>
    simp only [keyN] at h
    obtain ⟨ks, e1, e2⟩ := Option.bind_eq_some_iff.mp h
    split at e2
    · rename_i hd
      cases e2
      exact ⟨by simp only [nkD, e1, Option.map_some], hd, ds, rfl⟩
    · cases e2
  | _ => cases h
theorem keyN_is (I : Inv X pins σ H s) {d : D} {v : V} {u : Value} {k : NestedKey} (r : Rep X.kw al n U H d v) (ru : RelV v u) (h : keyN d = some k) : ∃ b, v = .ref b ∧ u = .ref b ∧ (nestedKind X.prog X.w).is s.heap k b := by
  obtain ⟨h1, h2, ds, rfl⟩ := keyN_some h
  have := nested_of I _ v u k r ru h1
  simp only [Rep] at r
  obtain ⟨a, vs, rfl, _⟩ := r
  obtain rfl : u = .ref a := ru
  exact ⟨a, rfl, rfl, this, h2⟩
theorem keys_are (I : Inv X pins σ H s) : ∀ {ks : List D} {xs : List (NestedKey × Addr × Value)}, Reps X.kw al n U H ks (xs.map fun x => V.ref x.2.1) → ks.map keyN = (xs.map fun x => some x.1) → ∀ x ∈ xs, (nestedKind X.prog X.w).is s.heap x.1 x.2.1
  | [], [], _, _, x, h => nomatch h
  | [], _ :: _, _, e, _, _ => by simp at e
  | _ :: _, [], _, e, _, _ => by simp at e
  | d :: ks, y :: xs, r, e, x, h => by
    simp only [List.map_cons, Reps] at r e
    obtain ⟨v, r', e2, r1, r2⟩ := r
    simp only [List.cons.injEq] at e e2
    rcases List.mem_cons.mp h with rfl | h
    · obtain ⟨b, e3, _, z⟩ := keyN_is I r1 (u := .ref x.2.1) (by rw [← e2.1]; rfl) e.1
      rw [← e2.1] at e3
      cases e3
      exact z
    · exact keys_are I (by rw [e2.2]; exact r2) e.2 x h
theorem nd_ok {w : World} {P : Program} {H' : Hp} {h : Heap} {a : Addr} {xs : List (NestedKey × Addr × Value)} (p : ndP w a xs h) : ObjOk P w H' h a (.ext (ndP w a xs)) :=
  ⟨p, let ⟨o, _, _, e, _⟩ := p; ⟨o, e⟩, fun _ _ ⟨o, es, ep, e, r⟩ k => ⟨o, es, ep, k o e, r⟩⟩
theorem nd_full (I : Inv X pins σ H s) {a : Addr} {ks : List D} {bs us : List V} {xs : List (NestedKey × Addr × Value)} (e : H a = some (.ext (ndP X.w a xs))) (N : NdOk a ks bs us xs) (r : Reps X.kw al n U H ks bs) : s.heap.DictOfH (nestedKind X.prog X.w) a xs := by
  obtain ⟨o, es, ep, h1, h2, h3, h4⟩ := (show ObjOk X.prog X.w H s.heap a (.ext (ndP X.w a xs)) from I.hok a _ e).1
  exact ⟨o, es, ep, h1, h2, h3, h4, keys_are I (by rw [← N.ref]; exact r) N.key, N.nod⟩
theorem findN_at {k : NestedKey} : ∀ {ks vs : List D} {us : List V} {xs : List (NestedKey × Addr × Value)}, ks.map keyN = (xs.map fun x => some x.1) → Reps X.kw al n U H vs us → Vals us (xs.map (·.2.2)) →
    (inN k ks = (atKey xs k).isSome) ∧ (∀ d, findN ks vs k = some d → ∃ p v, atKey xs k = some p ∧ Rep X.kw al n U H d v ∧ RelV v p.2) ∧ (findN ks vs k = none → atKey xs k = none)
  | [], vs, us, [], _, _, _ => by
    refine ⟨rfl, fun d h => ?_, fun _ => rfl⟩
    simp [findN] at h
  | [], _, _, _ :: _, e, _, _ => by simp at e
  | _ :: _, _, _, [], e, _, _ => by simp at e
  | c :: ks, vs, us, x :: xs, e, r, rv => by
    simp only [List.map_cons, List.cons.injEq] at e
    rw [List.map_cons] at rv
    cases rv with
    | @cons u w us' ws' hu hv =>
      cases vs with
      | nil => simp only [Reps] at r; cases r
      | cons d vs =>
        simp only [Reps] at r
        obtain ⟨v, r', e2, r1, r2⟩ := r
        simp only [List.cons.injEq] at e2
        obtain ⟨rfl, rfl⟩ := e2
        obtain ⟨ih1, ih2, ih3⟩ := findN_at (k := k) e.2 r2 hv
        by_cases hk : x.1 = k
        · have a1 : atKey (x :: xs) k = some x.2 := by simp [atKey, List.find?_cons, hk]
          rw [a1]
          refine ⟨?_, fun d' h => ?_, fun h => ?_⟩
          · unfold inN
            rw [List.any_cons, e.1, hk]
            simp
          · rw [findN, e.1, hk, if_pos rfl] at h
            cases h
            exact ⟨_, _, rfl, r1, hu⟩
          · rw [findN, e.1, hk, if_pos rfl] at h
            cases h
        · have a1 : atKey (x :: xs) k = atKey xs k := by simp [atKey, List.find?_cons, hk]
          have k1 : ¬ keyN c = some k := by rw [e.1]; simpa using hk
          rw [a1]
          refine ⟨?_, fun d' h => ?_, fun h => ?_⟩
          · unfold inN at ih1 ⊢
            rw [List.any_cons, decide_eq_false k1, Bool.false_or, ih1]
          · rw [findN, if_neg k1] at h
            exact ih2 d' h
          · rw [findN, if_neg k1] at h
            exact ih3 h
theorem nd_room {P : Program} {w : World} {A : Around} (h : A.units + 64 < cLine) : (nestedKind P w).room A.in1 := by
  show A.units + 1 + 8 < cLine
  omega
variable {S : Store}
theorem n_mem (neg : Bool) (hu : X.A.units + 64 < cLine) (I : Inv X pins σ H s) {x : V} {v : Value} {a : D} {i : Addr} {ks vs : List D} {k : NestedKey} {Q : VK} (rx : RelV x v) (ra : Rep X.kw al n U H a x) (ho : ObjRep X.kw al n U H i (.dcn ks vs)) (ek : keyN a = some k)
    (q : Q (.bl (if neg then !(inN k ks) else inN k ks)) H) : wpAny (model X.prog X.w) X.A (compareOp (if neg then .NotIn else .In) v (.ref i)) (EP X pins σ Q) X.xe s := by
  obtain ⟨xs, bs, us, h1, N, r1, r2⟩ := ho
  obtain ⟨b, rfl, rfl, hk⟩ := keyN_is I ra rx ek
  have full := nd_full I h1 N r1
  obtain ⟨f1, _⟩ := findN_at (k := k) N.key r2 N.val
  rw [f1] at q
  cases neg with
  | false => exact wpAny_in_heap (nd_room hu) hk N.sys full ⟨.bl (atKey xs k).isSome, H, I.tok _, rfl, q⟩
  | true => exact wpAny_notIn_heap (nd_room hu) hk N.sys full ⟨.bl (!(atKey xs k).isSome), H, I.tok _, rfl, q⟩
theorem n_getItem {E : Value → Shared → Prop} {Q : Value → Shared → Prop} (hu : X.A.units + 64 < cLine) (I : Inv X pins σ H s) {y : V} {u : Value} {a : D} {i : Addr} {ks vs : List D} {k : NestedKey} {d : D} (ry : RelV y u) (ra : Rep X.kw al n U H a y) (ho : ObjRep X.kw al n U H i (.dcn ks vs)) (ek : keyN a = some k)
    (hf : findN ks vs k = some d) (q : ∀ w w' s', Inv X pins σ H s' → RelV w w' → Rep X.kw al n U H d w → Q w' s') : s.TypeIs (.ref i) "dict" ∧ wpAny (model X.prog X.w) X.A (getItem (.ref i) u) Q E s := by
  obtain ⟨xs, bs, us, h1, N, r1, r2⟩ := ho
  obtain ⟨b, rfl, rfl, hk⟩ := keyN_is I ra ry ek
  have full := nd_full I h1 N r1
  obtain ⟨_, f2, _⟩ := findN_at (k := k) N.key r2 N.val
  obtain ⟨p, w, e1, e2, e3⟩ := f2 d hf
  exact ⟨full.typeIs, wpAny_getItem_heap (nd_room hu) hk full e1 (q w p.2 _ (I.tok _) e3 e2)⟩
theorem putN_ok {a : Addr} {ks vs : List D} {bs us : List V} {xs : List (NestedKey × Addr × Value)} {c d : D} {b : Addr} {v : V} {u : Value} {k : NestedKey} (N : NdOk a ks bs us xs) (r1 : Reps X.kw al n U H ks bs) (r2 : Reps X.kw al n U H vs us) (hl : ks.length < sizeLine)
    (ek : keyN c = some k) (rc : Rep X.kw al n U H c (.ref b)) (rd : Rep X.kw al n U H d v) (rv : RelV v u) :
    ∃ bs' us', NdOk a (putN ks vs c k d).1 bs' us' (storedH xs k b u) ∧ Reps X.kw al n U H (putN ks vs c k d).1 bs' ∧ Reps X.kw al n U H (putN ks vs c k d).2 us' := by
  obtain ⟨f1, _, f3⟩ := findN_at (k := k) N.key r2 N.val
  unfold putN storedH
  rw [f1]
  cases hs : (atKey xs k).isSome with
  | true =>
    simp only [if_true]
    have go : ∀ {ks vs : List D} {us : List V} {xs : List (NestedKey × Addr × Value)}, ks.map keyN = (xs.map fun x => some x.1) → Reps X.kw al n U H vs us → Vals us (xs.map (·.2.2)) →
        ∃ us', Reps X.kw al n U H (putVN k d ks vs) us' ∧ Vals us' ((xs.map (putAt k u)).map (·.2.2)) := by
      intro ks
      induction ks with
      | nil =>
        intro vs us xs e r rv'
        cases xs with
        | nil => exact ⟨us, by simpa [putVN] using r, rv'⟩
        | cons _ _ => simp at e
      | cons c' ks ih =>
        intro vs us xs e r rv'
        cases xs with
        | nil => simp at e
        | cons x xs =>
          simp only [List.map_cons, List.cons.injEq] at e
          rw [List.map_cons] at rv'
          cases rv' with
          | @cons u1 w1 us1 ws1 hu1 hv1 =>
            cases vs with
            | nil => simp only [Reps] at r; cases r
            | cons d1 vs =>
              simp only [Reps] at r
              obtain ⟨v1, r', e2, q1, q2⟩ := r
              simp only [List.cons.injEq] at e2
              obtain ⟨rfl, rfl⟩ := e2
              obtain ⟨us2, i1, i2⟩ := ih e.2 q2 hv1
              by_cases hk : x.1 = k
              · refine ⟨v :: us2, ?_, ?_⟩
                · rw [putVN, e.1, hk, if_pos rfl]
                  simp only [Reps]
                  exact ⟨v, us2, rfl, rd, i1⟩
                · have : putAt k u x = (x.1, x.2.1, u) := by simp [putAt, hk]
                  rw [List.map_cons, List.map_cons, this]
                  exact .cons rv i2
              · have k1 : ¬ keyN c' = some k := by rw [e.1]; simpa using hk
                refine ⟨u1 :: us2, ?_, ?_⟩
                · rw [putVN, if_neg k1]
                  simp only [Reps]
                  exact ⟨u1, us2, rfl, q1, i1⟩
                · have : putAt k u x = x := by simp [putAt, hk]
                  rw [List.map_cons, List.map_cons, this]
                  exact .cons hu1 i2
    obtain ⟨us', g1, g2⟩ := go N.key r2 N.val
    refine ⟨bs, us', ⟨N.sys, N.len, by rw [keys_map_putAt]; exact N.nod, ?_, ?_, g2⟩, r1, g1⟩
    · rw [N.key]
      have := congrArg (List.map some) (keys_map_putAt xs k u)
      simp only [List.map_map] at this ⊢
      exact this.symm
    · rw [N.ref, List.map_map]
      apply List.map_congr_left
      intro x _
      simp only [Function.comp, putAt]
      split <;> rfl
  | false =>
    simp only [Bool.false_eq_true, if_false]
    have hn : k ∉ xs.map (·.1) := by
      intro hm
      obtain ⟨x, hx, rfl⟩ := List.mem_map.mp hm
      obtain ⟨j, hj⟩ := List.mem_iff_getElem?.mp hx
      have := atKey_of_get N.nod (i := j) (k := x.1) (p := x.2) hj
      rw [this] at hs
      cases hs
    refine ⟨bs ++ [.ref b], us ++ [v], ⟨N.sys, by simp only [List.length_append, List.length_singleton]; exact hl, ?_, ?_, ?_, ?_⟩, r1.append (by simp only [Reps]; exact ⟨_, _, rfl, rc, rfl⟩), r2.append (by simp only [Reps]; exact ⟨_, _, rfl, rd, rfl⟩)⟩
    · rw [List.map_append]
      refine List.nodup_append.mpr ⟨N.nod, by simp, ?_⟩
      intro x hx y hy
      simp at hy
      subst hy
      intro e
      exact hn (e ▸ hx)
    · rw [List.map_append, List.map_append, N.key]
      simp [ek]
    · rw [List.map_append, N.ref]
      rfl
    · rw [List.map_append]
      exact Paired.snoc N.val rv
theorem n_setItem {E : Value → Shared → Prop} {Q : Unit → Shared → Prop} (hu : X.A.units + 64 < cLine) (I : Inv X pins σ H s) (sr : SR X.kw al U S H) {m : Nat} {i v : V} {iv u : Value} {b d : D} {ks vs : List D} {k : NestedKey} (hm : m < S.length) (eo : S[m]? = some (.dcn ks vs)) (ri : RelV i iv) (rb : Rep X.kw al S.length U H b i)
    (rv : RelV v u) (rd : Rep X.kw al S.length U H d v) (ek : keyN b = some k) (hl : ks.length < sizeLine)
    (q : ∀ H' (s' : Shared), Inv X pins σ H' s' → Nxt al S.length H al (S.set m (.dcn (putN ks vs b k d).1 (putN ks vs b k d).2)).length H' → SR X.kw al U (S.set m (.dcn (putN ks vs b k d).1 (putN ks vs b k d).2)) H' → Q () s') :
    wpAny (model X.prog X.w) X.A (setItem (.ref (al m)) iv u) Q E s := by
  obtain ⟨xs, bs, us, h1, N, r1, r2⟩ := sr.obj m _ eo
  obtain ⟨a, rfl, rfl, hk⟩ := keyN_is I rb ri ek
  have full := nd_full I h1 N r1
  have hz : xs.length ≤ sizeLine := by
    have := congrArg List.length N.key
    simp at this
    have := N.len
    omega
  obtain ⟨n1, s1⟩ := sr.put hm (ho := .ext (ndP X.w (al m) (storedH xs k a u))) (o := .dcn (putN ks vs b k d).1 (putN ks vs b k d).2) fun g => by
    obtain ⟨bs', us', g1, g2, g3⟩ := putN_ok (vs := vs) N (Reps.nxt g _ _ r1) (Reps.nxt g _ _ r2) hl ek (Rep.nxt g _ _ rb) (Rep.nxt g _ _ rd) rv
    exact ⟨_, bs', us', upd_same, g1, g2, g3⟩
  refine wpAny_setItem_heap (hsz := hz) (nd_room hu) hk full fun h' dd' hs => q _ _ ?_ n1 s1
  obtain ⟨o, es, ep, q1, q2, q3, q4, _, _⟩ := dd'
  exact d_write I (by rw [h1]; exact True.intro) hs ⟨o, q1⟩ (nd_ok ⟨o, es, ep, q1, q2, q3, q4⟩)
end
section
variable {X : Cx} {pins : List (Addr × Obj)} {σ : L2.St} {H : Hp} {s : Shared} {al : Nat → Addr} {n : Nat} {U : List Addr}
theorem n_get2 {Q : VK} (hu : X.A.units + 64 < cLine) (I : Inv X pins σ H s) {y z : V} {u r : Value} {a x : D} {i : Addr} {ks vs : List D} {k : NestedKey} (ry : RelV y u) (rz : RelV z r) (ra : Rep X.kw al n U H a y) (rx : Rep X.kw al n U H x z) (ho : ObjRep X.kw al n U H i (.dcn ks vs)) (ek : keyN a = some k)
    (q : ∀ v, Rep X.kw al n U H ((findN ks vs k).getD x) v → Q v H) : wpAny (model X.prog X.w) X.A (call (.builtin "dict.get") [.ref i, u, r]) (EP X pins σ Q) X.xe s := by
  obtain ⟨xs, bs, us, h1, N, r1, r2⟩ := ho
  obtain ⟨b, rfl, rfl, hk⟩ := keyN_is I ra ry ek
  have full := nd_full I h1 N r1
  obtain ⟨_, f2, f3⟩ := findN_at (k := k) N.key r2 N.val
  refine call_meetsIn PySem.F.slot_dict_get full.typeIs PySem.F.entry_dict_get (PySem.F.args_dict_get_3 _ _ _) (meetsH_dict_get_default (nestedKind X.prog X.w) i b N.sys r) ⟨nd_room hu, k, xs, hk, full, ?_⟩
  cases hf : findN ks vs k with
  | none =>
    rw [hf] at q
    rw [f3 hf]
    exact ⟨z, H, I.tok _, rz, q z rx⟩
  | some d =>
    rw [hf] at q
    obtain ⟨p, w, e1, e2, e3⟩ := f2 d hf
    rw [e1]
    exact ⟨w, H, I.tok _, e3, q w e2⟩
theorem nd_type (I : Inv X pins σ H s) {a : Addr} {xs : List (NestedKey × Addr × Value)} (e : H a = some (.ext (ndP X.w a xs))) : s.TypeIs (.ref a) "dict" ∧ ∃ ob, s.heap.get? a = some ob ∧ ob.dict = none := by
  obtain ⟨o, es, ep, h1, h2, h3, h4⟩ := (show ObjOk X.prog X.w H s.heap a (.ext (ndP X.w a xs)) from I.hok a _ e).1
  exact ⟨⟨o, h1, h2.1⟩, o, h1, h2.2.1⟩
end
/-! ### sorted of one thing -/
section
variable {prog : Program} {w : World} {A : Around} {E : Value → Shared → Prop} {s : Shared}
theorem sort1_tree {l : Addr} {v : Value} {m : Nat} {P : Fin → Shared → Prop} (hl : s.heap.get? l = some (seqObj "list" #[v] m)) (h : P (.done (.ret .none)) { s with heap := sortedHeap s.heap l [v] #[v] }) :
    wpAny (model prog w) A (Builtin.«list.sort» ⟨[.ref l], []⟩) P E s := by
  rw [list_sort_plain]
  have lt := Heap.lt_size hl
  have z1 : (1 : Nat) ≤ sizeLine := by decide
  obtain ⟨m1, g1⟩ : ∃ m1, (s.heap.update l (Obj.mapSeq fun _ => #[])).get? l = some (seqObj "list" #[] m1) := ⟨_, get?_update_seq hl (fun _ => #[])⟩
  have g2 : (((s.heap.update l (Obj.mapSeq fun _ => #[])).push (seqObj "tuple" [v].toArray 0)).push (seqObj "list" #[] 0)).get? l = some (seqObj "list" #[] m1) := by
    have n1 : l ≠ (s.heap.update l (Obj.mapSeq fun _ => #[])).objs.size := by rw [Heap.size_update]; exact Nat.ne_of_lt lt
    have n2 : l ≠ ((s.heap.update l (Obj.mapSeq fun _ => #[])).push (seqObj "tuple" [v].toArray 0)).objs.size := by rw [size_push', Heap.size_update]; exact Nat.ne_of_lt (Nat.lt_succ_of_lt lt)
    exact (Heap.get?_push_ne _ _ _ n2).trans ((Heap.get?_push_ne _ _ _ n1).trans g1)
  refine wpAny_bind (listItems_at hl rfl ?_)
  refine wpAny_bind (listUpdate_at hl rfl ?_ (hsz := z1) (hsz2 := Nat.zero_le _))
  refine wpAny_bind (seqEpoch_at g1 rfl ?_)
  refine wpAny_bind (wpAny_newTuple (wpAny_bind (wpAny_newList (wpAny_holding ?_))))
  dsimp only
  show wpAny (model prog w) A _ P E { s with heap := ((s.heap.update l (Obj.mapSeq fun _ => #[])).push (seqObj "tuple" [v].toArray 0)).push (seqObj "list" #[] 0) }
  have e2 : (#[v] : Array Value).size < 2 := Nat.lt_succ_self 1
  have ez : Array.map (fun x => x.2) (arrOf (SortSt.mk' general' (#[v].zip #[v]) #[] 7 none)) = #[v] := by
    show Array.map (fun x : Value × Value => x.2) (#[v].zip #[v]) = #[v]
    simp
  rw [if_pos e2, if_pos e2]
  apply wpAny_bind
  refine wpAny_pure ?_
  rw [StateT.run_pure]
  apply wpAny_bind
  refine wpAny_pure ?_
  dsimp only
  rw [ez]
  refine wpAny_bind (seqEpoch_at g2 rfl ?_)
  refine wpAny_bind (listUpdate_at g2 rfl ?_ (hsz := Nat.zero_le _) (hsz2 := Nat.le_succ_of_le z1))
  simp only [bne_self_eq_false, Bool.false_eq_true, if_false]
  exact wpAny_pure h
theorem sorted1 {l : Addr} {v : Value} {Q : Value → Shared → Prop} (hl : s.heap.IsList l [v].toArray) (h : Q (.ref (s.heap.objs.size + 1)) { s with heap := sortedAll s.heap [v] #[v] }) :
    wpAny (model prog w) A (call (.builtin "sorted") [.ref l]) Q E s := by
  have z1 : ([v] : List Value).length ≤ sizeLine := by show 1 ≤ sizeLine; decide
  refine Calls.call_function_entry kind_sorted plain_sorted entry_sorted (args_sorted1 _) ?_
  unfold Builtin.«sorted»
  refine wpAny_bind (m := checkCount "sorted" 1 1 _) (wpAny_pure (wpAny_bind (collect_list hl (wpAny_bind (wpAny_newList ?_ z1)) z1)))
  have sz : ((s.heap.push (seqObj "list" #[] 0)).update s.heap.objs.size (Obj.mapSeq (· ++ [v].toArray))).objs.size = s.heap.objs.size + 1 := (Heap.size_update ..).trans (size_push' ..)
  have g : (((s.heap.push (seqObj "list" #[] 0)).update s.heap.objs.size (Obj.mapSeq (· ++ [v].toArray))).push (seqObj "list" [v].toArray 0)).get? (s.heap.objs.size + 1) = some (seqObj "list" [v].toArray 0) := by
    rw [← sz]
    exact Heap.get?_push_size _ rfl
  show wpAny _ _ _ _ _ { s with heap := ((s.heap.push (seqObj "list" #[] 0)).update s.heap.objs.size (Obj.mapSeq (· ++ [v].toArray))).push (seqObj "list" [v].toArray 0) }
  rw [sz]
  exact wpAny_bind (wpAny_holding (wpAny_call_entry slot_list_sort ⟨_, g, rfl⟩ entry_list_sort (sort1_tree g ⟨_, rfl, wpAny_pure ⟨_, rfl, h⟩⟩) (args_list_sort _)))
end
theorem cr_sorted1 {X : Cx} : CallR X (.builtin "sorted") (fun vs H Q => ∃ (a : Addr) (x : V), vs = [V.ref a] ∧ SqL X.kw H a [x] ∧ ∀ p, H p = none → Q (.ref p) (upd H p (.lst [x]))) := by
  intro pins s σ H vs us Q I r h
  obtain ⟨a, x, rfl, hs, q⟩ := h
  obtain ⟨its, rv, hl, _⟩ := I.list hs
  rw [Vals.ref1 r]
  cases rv with
  | @cons _ u _ _ ru t =>
    cases t
    refine sorted1 hl.isList ?_
    obtain ⟨ep, hp⟩ := sortedAll_at s.heap [u] #[u]
    exact ⟨.ref _, upd H (s.heap.objs.size + 1) (.lst [x]), I.laid (t' := s.toks) (fun _ _ => sortedAll_old) (Nat.le_succ _) ⟨by show 1 ≤ sizeLine; decide, [u], ep, .cons ru .nil, hp⟩, rfl, q _ (I.hok.fresh (Nat.le_succ _))⟩
end Z

set_option Elab.async false
set_option linter.all false
set_option maxRecDepth 100000
set_option maxHeartbeats 4000000
/-! Cmps: comparisons by values. -/
namespace Z
open PySem L2 PySem.Spec PyProof.Rows

theorem toS_inj {x y : List Char} (h : toS x = toS y) : x = y := by
  have h1 : (x.map Char.toNat).toArray = (y.map Char.toNat).toArray := by injection h
  have h2 : x.map Char.toNat = y.map Char.toNat := by simpa using h1
  exact List.map_inj_right (fun a b e => Char.toNat_inj.mp e) |>.mp h2
theorem toS_beq (x y : List Char) : (toS x == toS y) = decide (x = y) := by
  by_cases h : x = y
  · subst h; simp
  · rw [decide_eq_false h]
    have : toS x ≠ toS y := fun e => h (toS_inj e)
    simpa using this

mutual
theorem okD_lay : ∀ (n : Nat) (d : D), okD n d = true → d.py.canLay0 = true ∧ d.py.depth ≤ n
  | 0, _, h => by simp [okD] at h
  | n + 1, .non, _ => by simp [D.py, PyData.canLay0, PyData.depth]
  | n + 1, .bl _, _ => by simp [D.py, PyData.canLay0, PyData.depth]
  | n + 1, .int _, _ => by simp [D.py, PyData.canLay0, PyData.depth]
  | n + 1, .str s, _ => by
    refine ⟨?_, by simp [D.py, PyData.depth]⟩
    simp only [D.py, PyData.canLay0, PyData.strOk]
    simp only [List.all_toArray, List.all_map, List.all_eq_true, Function.comp, decide_eq_true_eq]
    intro c _
    have := c.valid
    have h2 : c.toNat = c.val.toNat := rfl
    rcases this with h | h
    · have : c.val.toNat < 0xd800 := h
      show c.toNat < 0x110000
      omega
    · have : c.val.toNat < 0x110000 := h.2
      show c.toNat < 0x110000
      omega
  | n + 1, .tup ds, h => by
    simp only [okD] at h
    obtain ⟨a, b⟩ := okD_lays n ds h
    exact ⟨by simpa [D.py, PyData.canLay0] using a, by simp only [D.py, PyData.depth]; omega⟩
  | n + 1, .lst ds, h => by
    simp only [okD] at h
    obtain ⟨a, b⟩ := okD_lays n ds h
    exact ⟨by simpa [D.py, PyData.canLay0] using a, by simp only [D.py, PyData.depth]; omega⟩
  | n + 1, .ref _, h => by simp [okD] at h
theorem okD_lays : ∀ (n : Nat) (ds : List D), ds.all (okD n) = true → PyData.canLayAll0 (D.pys ds) = true ∧ PyData.depthAll (D.pys ds) ≤ n
  | n, [], _ => by simp [D.pys, PyData.canLayAll0, PyData.depthAll]
  | n, d :: ds, h => by
    rw [List.all_cons, Bool.and_eq_true] at h
    obtain ⟨a, b⟩ := okD_lay n d h.1
    obtain ⟨a2, b2⟩ := okD_lays n ds h.2
    refine ⟨by simp [D.pys, PyData.canLayAll0, a, a2], ?_⟩
    simp only [D.pys, PyData.depthAll]
    omega
end
theorem okD_shaped {d : D} (h : okD 60 d = true) : SeqAt.shaped d.py = true := by
  obtain ⟨a, b⟩ := okD_lay 60 d h
  unfold SeqAt.shaped
  rw [a, Bool.true_and, decide_eq_true_eq]
  omega
section
variable {K : KW} {al : Nat → Addr} {n : Nat} {U : List Addr} {S : Store} {H : Hp}
mutual
theorem Rep.dp : ∀ (m : Nat) (d : D) (v : V), okD m d = true → Rep K al n U H d v → Dp K H v d.py
  | 0, _, _, h, _ => by simp [okD] at h
  | m + 1, .non, v, _, r => by simp only [Rep] at r; subst r; exact .non
  | m + 1, .bl b, v, _, r => by simp only [Rep] at r; subst r; exact .bl b
  | m + 1, .int i, v, _, r => by simp only [Rep] at r; subst r; exact .int i
  | m + 1, .str s, v, _, r => by simp only [Rep] at r; rw [r.1]; exact .str _
  | m + 1, .tup ds, v, h, r => by
    simp only [Rep] at r
    simp only [okD] at h
    obtain ⟨a, vs, rfl, t, l, rs⟩ := r
    simp only [D.py]
    exact .tup t.sq (Reps.dp m ds vs h rs)
  | m + 1, .lst ds, v, h, r => by
    simp only [Rep] at r
    simp only [okD] at h
    obtain ⟨a, vs, rfl, t, l, rs⟩ := r
    simp only [D.py]
    exact .lst t.sq (Reps.dp m ds vs h rs)
  | m + 1, .ref _, _, h, _ => by simp [okD] at h
theorem Reps.dp : ∀ (m : Nat) (ds : List D) (vs : List V), ds.all (okD m) = true → Reps K al n U H ds vs → DpAll K H vs (D.pys ds)
  | m, [], vs, _, r => by simp only [Reps] at r; subst r; exact .nil
  | m, d :: ds, vs, h, r => by
    simp only [Reps] at r
    obtain ⟨v, r', rfl, r1, r2⟩ := r
    rw [List.all_cons, Bool.and_eq_true] at h
    exact .cons (Rep.dp m d v h.1 r1) (Reps.dp m ds r' h.2 r2)
end
theorem Rep.deref (sr : SR K al U S H) {d : D} {v : V} (r : Rep K al S.length U H d v) (h : okD 60 (deref S d) = true) : Dp K H v (deref S d).py := by
  cases d with
  | ref i =>
    simp only [Rep] at r
    obtain ⟨hi, rfl⟩ := r
    cases e : S[i]? with
    | none => simp [Z.deref, e, okD] at h
    | some o =>
      cases o with
      | lst ds =>
        obtain ⟨vs, q, l, rs⟩ := sr.obj i _ e
        simp only [Z.deref, e, D.py] at h ⊢
        simp only [okD] at h
        exact .lst (SqL.of q) (Reps.dp 59 ds vs h rs)
      | dct _ _ => simp [Z.deref, e, okD] at h
      | dcn _ _ => simp [Z.deref, e, okD] at h
  | _ => exact Rep.dp 60 _ v h r
theorem flatD_V {d : D} {v : V} (r : Rep K al n U H d v) (h : flatD d = true) : flatV v = true := by
  cases d with
  | non => simp only [Rep] at r; subst r; rfl
  | bl _ => simp only [Rep] at r; subst r; rfl
  | int _ => simp only [Rep] at r; subst r; rfl
  | str _ => simp only [Rep] at r; rw [r.1]; rfl
  | _ => cases h
theorem flatD_eq {d e : D} {v u : V} (r : Rep K al n U H d v) (h : flatD d = true) (r2 : Rep K al n U H e u) (h2 : flatD e = true) : eqV v u = eqD d e := by
  cases d with
  | non =>
    simp only [Rep] at r; subst r
    cases e with
    | non => simp only [Rep] at r2; subst r2; rfl
    | bl _ => simp only [Rep] at r2; subst r2; rfl
    | int _ => simp only [Rep] at r2; subst r2; rfl
    | str _ => simp only [Rep] at r2; rw [r2.1]; rfl
    | _ => cases h2
  | bl b =>
    simp only [Rep] at r; subst r
    cases e with
    | non => simp only [Rep] at r2; subst r2; rfl
    | bl _ => simp only [Rep] at r2; subst r2; rfl
    | int _ => simp only [Rep] at r2; subst r2; rfl
    | str _ => simp only [Rep] at r2; rw [r2.1]; rfl
    | _ => cases h2
  | int _ =>
    simp only [Rep] at r; subst r
    cases e with
    | non => simp only [Rep] at r2; subst r2; rfl
    | bl _ => simp only [Rep] at r2; subst r2; rfl
    | int _ => simp only [Rep] at r2; subst r2; rfl
    | str _ => simp only [Rep] at r2; rw [r2.1]; rfl
    | _ => cases h2
  | str _ =>
    simp only [Rep] at r; rw [r.1]
    cases e with
    | non => simp only [Rep] at r2; subst r2; rfl
    | bl _ => simp only [Rep] at r2; subst r2; rfl
    | int _ => simp only [Rep] at r2; subst r2; rfl
    | str _ => simp only [Rep] at r2; rw [r2.1]; rfl
    | _ => cases h2
  | _ => cases h
theorem flatD_in {d : D} {v : V} (r : Rep K al n U H d v) (h : flatD d = true) : ∀ {ds : List D} {vs : List V}, Reps K al n U H ds vs → ds.all flatD = true → vs.all flatV = true ∧ inV v vs = inD d ds
  | [], vs, rs, _ => by simp only [Reps] at rs; subst rs; exact ⟨rfl, rfl⟩
  | e :: es, vs, rs, hs => by
    simp only [Reps] at rs
    obtain ⟨u, us, rfl, r1, r2⟩ := rs
    rw [List.all_cons, Bool.and_eq_true] at hs
    obtain ⟨a, b⟩ := flatD_in r h r2 hs.2
    refine ⟨by rw [List.all_cons, flatD_V r1 hs.1, a]; rfl, ?_⟩
    unfold inV inD at b ⊢
    rw [List.any_cons, List.any_cons, b, flatD_eq r1 hs.1 r h]
theorem keyOk_rep {d : D} {v : V} (r : Rep K al n U H d v) (h : keyOk d = true) : ∃ k : Key, keyD d = some k ∧ v = kV k := by
  cases d with
  | int i => simp only [Rep] at r; subst r; exact ⟨.inl i, rfl, rfl⟩
  | str s => simp only [Rep] at r; rw [r.1]; exact ⟨.inr (toS s), rfl, rfl⟩
  | _ => cases h
theorem keyOk_eq {d e : D} (h : keyOk d = true) (h2 : keyOk e = true) : eqD d e = decide (keyD d = keyD e) := by
  cases d with
  | int i =>
    cases e with
    | int j =>
      show (i == j) = decide (some (Sum.inl i) = some (Sum.inl j))
      rw [Bool.eq_iff_iff]; simp
    | str _ => rfl
    | _ => cases h2
  | str s =>
    cases e with
    | int j => rfl
    | str t =>
      show (toS s == toS t) = decide (some (Sum.inr (toS s)) = some (Sum.inr (toS t)))
      rw [Bool.eq_iff_iff]; simp
    | _ => cases h2
  | _ => cases h
/-- the keys of a dict: what is found -/
theorem findK_val {a : D} {k : Key} (ha : keyOk a = true) (ek : keyD a = some k) : ∀ {ks vs : List D} {kvs : List (Key × V)}, ks.all keyOk = true → ks.map keyD = kvs.map (fun p => some p.1) → Reps K al n U H vs (kvs.map (·.2)) →
    (inD a ks = (valV kvs k).isSome) ∧ ∀ d, findK ks vs a = some d → ∃ v, valV kvs k = some v ∧ Rep K al n U H d v
  | [], vs, [], _, _, _ => by
    refine ⟨rfl, fun d h => ?_⟩
    unfold findK at h
    cases h
  | [], vs, p :: kvs, _, e, _ => by simp at e
  | c :: ks, vs, [], _, e, _ => by simp at e
  | c :: ks, vs, p :: kvs, hk, e, rs => by
    rw [List.all_cons, Bool.and_eq_true] at hk
    simp only [List.map_cons, List.cons.injEq] at e
    cases vs with
    | nil => simp only [Reps] at rs; cases rs
    | cons w ws =>
      simp only [List.map_cons, Reps] at rs
      obtain ⟨v, r, e2, r1, r2⟩ := rs
      simp only [List.cons.injEq] at e2
      obtain ⟨ih1, ih2⟩ := findK_val ha ek hk.2 e.2 (by rw [e2.2]; exact r2)
      have q : eqD c a = decide (p.1 = k) := by
        rw [keyOk_eq hk.1 ha, ek, e.1]
        simp
      by_cases hp : p.1 = k
      · rw [decide_eq_true hp] at q
        refine ⟨?_, fun d h => ?_⟩
        · unfold inD
          rw [List.any_cons, q, valV_pos hp]
          rfl
        · unfold findK at h
          rw [q, if_pos rfl] at h
          cases h
          exact ⟨p.2, valV_pos hp, by rw [e2.1]; exact r1⟩
      · rw [decide_eq_false hp] at q
        refine ⟨?_, fun d h => ?_⟩
        · unfold inD at ih1 ⊢
          rw [List.any_cons, q, valV_neg hp, ih1]
          rfl
        · unfold findK at h
          rw [q, if_neg Bool.false_ne_true] at h
          rw [valV_neg hp]
          exact ih2 d h
end

theorem ltS_lex : ∀ x y : List Char, decide ((toS x).cps.toList < (toS y).cps.toList) = ltS x y := by
  intro x y
  have : ∀ x y : List Char, (x.map Char.toNat < y.map Char.toNat) ↔ ltS x y = true := by
    intro x
    induction x with
    | nil =>
      intro y
      cases y with
      | nil => simp [ltS]
      | cons b y => simp [ltS]
    | cons a x ih =>
      intro y
      cases y with
      | nil => simp [ltS]
      | cons b y =>
        simp only [List.map_cons, List.cons_lt_cons_iff, ltS, ih y]
        by_cases h1 : a.toNat < b.toNat
        · simp [h1]
        · by_cases h2 : b.toNat < a.toNat
          · have : a.toNat ≠ b.toNat := by omega
            simp [h1, h2, this]
          · have : a.toNat = b.toNat := by omega
            simp [h1, h2, this]
  have h := this x y
  show decide ((x.map Char.toNat).toArray.toList < (y.map Char.toNat).toArray.toList) = _
  simp only [List.toList_toArray]
  cases e : ltS x y with
  | true => exact decide_eq_true (h.mpr e)
  | false => exact decide_eq_false (fun q => by rw [h.mp q] at e; cases e)
def cmA : Cm → CmpOp
  | .eq => .Eq | .ne => .NotEq | .lt => .Lt | .le => .LtE | .gt => .Gt | .ge => .GtE | .isIn => .In | .notIn => .NotIn | .isNone => .Is | .notNone => .IsNot | .isTrue => .Is | .notTrue => .IsNot
section
variable {X : Cx}
theorem sgn (c : Char) : toS [c] = ⟨#[c.toNat]⟩ := rfl
theorem sgn_mem (c : Char) (y : List Char) : decide (c.toNat ∈ (toS y).cps.toList) = decide (c ∈ y) := by
  rw [Bool.eq_iff_iff]
  simp only [decide_eq_true_eq]
  show c.toNat ∈ (y.map Char.toNat).toArray.toList ↔ _
  simp only [List.mem_map]
  constructor
  · rintro ⟨d, h, e⟩
    rw [← Char.toNat_inj.mp e]
    exact h
  · intro h
    exact ⟨c, h, rfl⟩
theorem pys_any (d : PyData) : ∀ ds : List D, ((D.pys ds).any fun z => PyData.eqv z d) = ds.any fun z => PyData.eqv z.py d
  | [] => rfl
  | x :: ds => by
    show (PyData.eqv x.py d || (D.pys ds).any fun z => PyData.eqv z d) = _
    rw [pys_any d ds]
    rfl
theorem mem_D (neg : Bool) (hu : X.A.units + 64 < cLine) {pins : List (Addr × Obj)} {s : Shared} {σ : L2.St} {H : Hp} {x y : V} {v u : Value} {Q : VK} (I : Inv X pins σ H s) (rx : RelV x v) (ry : RelV y u) {al : Nat → Addr} {U : List Addr} {S : Store} {a b : D} {k : Bool}
    (sr : SR X.kw al U S H) (ra : Rep X.kw al S.length U H a x) (rb : Rep X.kw al S.length U H b y) (e : memD S a b = some k) (q : Q (.bl (if neg then !k else k)) H) :
    wpAny (model X.prog X.w) X.A (compareOp (if neg then .NotIn else .In) v u) (EP X pins σ Q) X.xe s := by
  have seq : ∀ (p : Addr) (ds : List D) (vs : List V), y = .ref p → (SqL X.kw H p vs ∨ SqT X.kw H p vs) → Reps X.kw al S.length U H ds vs → flatD a = true ∧ ds.all flatD = true → inD a ds = k →
      wpAny (model X.prog X.w) X.A (compareOp (if neg then .NotIn else .In) v u) (EP X pins σ Q) X.xe s := by
    intro p ds vs ey hs rs hf ek
    obtain ⟨f1, f2⟩ := flatD_in ra hf.1 rs hf.2
    cases neg with
    | false => exact op_in_seq pins s σ H x y v u Q I rx ry ⟨p, vs, ey, hs, flatD_V ra hf.1, f1, by rw [f2, ek]; exact q⟩
    | true => exact op_notIn_seq pins s σ H x y v u Q I rx ry ⟨p, vs, ey, hs, flatD_V ra hf.1, f1, by rw [f2, ek]; exact q⟩
  have deep : ∀ (p : Addr) (ds : List D) (vs : List V), y = .ref p → (SqL X.kw H p vs ∨ SqT X.kw H p vs) → Reps X.kw al S.length U H ds vs → okD 60 a = true ∧ ds.all (okD 59) = true → inD a ds = k →
      wpAny (model X.prog X.w) X.A (compareOp (if neg then .NotIn else .In) v u) (EP X pins σ Q) X.xe s := by
    intro p ds vs ey hs rs hd ek
    obtain ⟨as1, r1⟩ := Dp.reads I a.py x v (Rep.dp 60 a x hd.1 ra) rx
    obtain ⟨la, da⟩ := okD_lay 60 a hd.1
    have hl : okD 60 (.lst ds) = true := by simp only [okD]; exact hd.2
    obtain ⟨ll, _⟩ := okD_lay 60 (.lst ds) hl
    have hls : PyData.canLayAll0 (D.pys ds) = true := ll
    have room : X.A.units + 1 + min (PyData.depthAll (D.pys ds)) a.py.depth < cLine := by
      have := Nat.min_le_right (PyData.depthAll (D.pys ds)) a.py.depth
      omega
    have q' : Q (.bl (if neg then !((D.pys ds).any fun z => PyData.eqv z a.py) else (D.pys ds).any fun z => PyData.eqv z a.py)) H := by
      rw [pys_any]
      show Q (.bl (if neg then !inD a ds else inD a ds)) H
      rw [ek]
      exact q
    rcases hs with hs | hs
    · obtain ⟨as2, r2⟩ := Dp.reads I (.list (D.pys ds)) y u (by rw [ey]; exact .lst hs (Reps.dp 59 ds vs hd.2 rs)) ry
      cases neg with
      | false => exact SeqAt.in_list_reads r2 r1 hls la room ⟨.bl _, H, I, rfl, q'⟩
      | true => exact SeqAt.notIn_list_reads r2 r1 hls la room ⟨.bl _, H, I, rfl, q'⟩
    · obtain ⟨as2, r2⟩ := Dp.reads I (.tuple (D.pys ds)) y u (by rw [ey]; exact .tup hs (Reps.dp 59 ds vs hd.2 rs)) ry
      cases neg with
      | false => exact SeqAt.in_tuple_reads r2 r1 hls la room ⟨.bl _, H, I, rfl, q'⟩
      | true => exact SeqAt.notIn_tuple_reads r2 r1 hls la room ⟨.bl _, H, I, rfl, q'⟩
  cases b with
  | str ys =>
    unfold memD at e
    cases a with
    | str xs =>
      match xs, e with
      | [], e => simp at e
      | _ :: _ :: _, e => simp at e
      | [c], e =>
        have e : decide (c ∈ ys) = k := by simpa using e
        simp only [Rep] at ra rb
        cases neg with
        | false => exact op_in_sign pins s σ H x y v u Q I rx ry ⟨c.toNat, _, ra.1, rb.1, by rw [sgn_mem, e]; exact q⟩
        | true => exact op_notIn_sign pins s σ H x y v u Q I rx ry ⟨c.toNat, _, ra.1, rb.1, by rw [sgn_mem, e]; exact q⟩
    | _ => simp at e
  | tup ds =>
    unfold memD at e
    simp only [Rep] at rb
    obtain ⟨p, vs, ey, t, l, rs⟩ := rb
    simp only at e
    split at e
    · rename_i hf
      exact seq p ds vs ey (.inr t.sq) rs hf (by simpa using e)
    · split at e
      · rename_i hd
        exact deep p ds vs ey (.inr t.sq) rs hd (by simpa using e)
      · cases e
  | lst ds =>
    unfold memD at e
    simp only [Rep] at rb
    obtain ⟨p, vs, ey, t, l, rs⟩ := rb
    simp only at e
    split at e
    · rename_i hf
      exact seq p ds vs ey (.inl t.sq) rs hf (by simpa using e)
    · split at e
      · rename_i hd
        exact deep p ds vs ey (.inl t.sq) rs hd (by simpa using e)
      · cases e
  | ref m =>
    unfold memD at e
    simp only [Rep] at rb
    obtain ⟨hm, ey⟩ := rb
    simp only at e
    split at e
    · rename_i ds ed
      obtain ⟨vs, h1, l, rs⟩ := sr.obj m _ ed
      split at e
      · rename_i hf
        exact seq _ ds vs ey (.inl (SqL.of h1)) rs hf (by simpa using e)
      · split at e
        · rename_i hd
          exact deep _ ds vs ey (.inl (SqL.of h1)) rs hd (by simpa using e)
        · cases e
    · rename_i ks vs ed
      obtain ⟨kvs, h1, l, r1, r2, r3, r4⟩ := sr.obj m _ ed
      split at e
      · rename_i hf
        obtain ⟨ky, ek, ex⟩ := keyOk_rep ra hf.1
        obtain ⟨f1, _⟩ := findK_val hf.1 ek hf.2 r1 r2
        have e : inD a ks = k := by simpa using e
        subst ey
        obtain rfl : u = Value.ref (al m) := ry
        rw [e] at f1
        cases neg with
        | false => exact d_in (by omega) I (ex ▸ DGet.k h1) rx fun s3 I3 => ⟨.bl k, H, I3, by rw [f1]; rfl, q⟩
        | true => exact d_notIn (by omega) I (ex ▸ DGet.k h1) rx fun s3 I3 => ⟨.bl (!k), H, I3, by rw [f1]; rfl, q⟩
      · cases e
    · rename_i ks vs ed
      obtain ⟨ky, ek, ex⟩ := Option.map_eq_some_iff.mp e
      subst ey
      obtain rfl : u = Value.ref (al m) := ry
      exact n_mem neg hu I rx ra (sr.obj m _ ed) ek (by rw [ex]; exact q)
    · cases e
  | _ => unfold memD at e; cases e

theorem isNon_rep {K : KW} {al : Nat → Addr} {n : Nat} {U : List Addr} {H : Hp} {a : D} {x : V} (r : Rep K al n U H a x) : decide (x = .non) = isNonD a := by
  cases a with
  | non => simp only [Rep] at r; subst r; rfl
  | bl _ => simp only [Rep] at r; subst r; rfl
  | int _ => simp only [Rep] at r; subst r; rfl
  | str _ => simp only [Rep] at r; rw [r.1]; rfl
  | tup _ => simp only [Rep] at r; obtain ⟨_, _, rfl, _⟩ := r; rfl
  | lst _ => simp only [Rep] at r; obtain ⟨_, _, rfl, _⟩ := r; rfl
  | ref _ => simp only [Rep] at r; rw [r.2]; rfl
  | fn _ => simp only [Rep] at r; obtain ⟨_, rfl, _⟩ := r; rfl
theorem cmp_D (hu : X.A.units + 64 < cLine) (o : Cm) : OpR X (compareOp (cmA o)) (tOpD X.kw (cmpD o)) := by
  intro pins s σ H x y v u Q I rx ry ⟨al, U, S, a, b, d, S', sr, ra, rb, e, q⟩
  have q' : ∀ k : Bool, R.ok (D.bl k, S) = R.ok (d, S') → Q (.bl k) H := fun k h => by
    cases h
    exact q _ _ _ .refl sr (by simp only [Rep])
  cases o with
  | eq =>
    simp only [cmpD] at e
    split at e
    · rename_i h
      exact op_eqD hu pins s σ H x y v u Q I rx ry ⟨_, _, Rep.deref sr ra h.1, Rep.deref sr rb h.2, okD_shaped h.1, okD_shaped h.2, q' _ e⟩
    · cases e
  | ne =>
    simp only [cmpD] at e
    split at e
    · rename_i h
      exact op_neD hu pins s σ H x y v u Q I rx ry ⟨_, _, Rep.deref sr ra h.1, Rep.deref sr rb h.2, okD_shaped h.1, okD_shaped h.2, q' _ e⟩
    · cases e
  | lt =>
    simp only [cmpD] at e
    split at e
    · rename_i k ek
      unfold ltD at ek
      split at ek
      · simp only [Rep] at ra rb
        cases ek
        exact op_lt pins s σ H x y v u Q I rx ry ⟨_, _, ra, rb, q' _ e⟩
      · simp only [Rep] at ra rb
        cases ek
        refine op_lt_str pins s σ H x y v u Q I rx ry ⟨_, _, ra.1, rb.1, ?_⟩
        exact Eq.mp (congrArg (fun k => Q (.bl k) H) (ltS_lex _ _).symm) (q' _ e)
      · split at ek
        · rename_i xs ys hh
          cases ek
          obtain ⟨as1, r1⟩ := Dp.reads I _ x v (Rep.dp 60 (.tup xs) x hh.1 ra) rx
          obtain ⟨as2, r2⟩ := Dp.reads I _ y u (Rep.dp 60 (.tup ys) y hh.2.1 rb) ry
          obtain ⟨_, da⟩ := okD_lay 60 _ hh.1
          have room : X.A.units + min (D.tup xs).py.depth (D.tup ys).py.depth < cLine := by
            have := Nat.min_le_left (D.tup xs).py.depth (D.tup ys).py.depth
            omega
          exact PySem.W.lt_data r1 r2 hh.2.2 (fun h => nomatch h) room ⟨.bl _, H, I, rfl, q' _ e⟩
        · cases ek
      · cases ek
    · cases e
  | le =>
    simp only [cmpD] at e
    split at e
    · simp only [Rep] at ra rb
      exact op_le pins s σ H x y v u Q I rx ry ⟨_, _, ra, rb, q' _ e⟩
    · cases e
  | gt =>
    simp only [cmpD] at e
    split at e
    · simp only [Rep] at ra rb
      exact op_gt pins s σ H x y v u Q I rx ry ⟨_, _, ra, rb, q' _ e⟩
    · cases e
  | ge =>
    simp only [cmpD] at e
    split at e
    · simp only [Rep] at ra rb
      exact op_ge pins s σ H x y v u Q I rx ry ⟨_, _, ra, rb, q' _ e⟩
    · cases e
  | isIn =>
    simp only [cmpD] at e
    split at e
    · rename_i k ek
      exact mem_D false (by omega) I rx ry sr ra rb ek (q' _ e)
    · cases e
  | notIn =>
    simp only [cmpD] at e
    split at e
    · rename_i k ek
      exact mem_D true (by omega) I rx ry sr ra rb ek (q' _ e)
    · cases e
  | isNone =>
    simp only [cmpD] at e
    split at e
    · simp only [Rep] at rb
      refine op_isN pins s σ H x y v u Q I rx ry ⟨rb, ?_⟩
      rw [isNon_rep ra]
      exact q' _ e
    · cases e
  | notNone =>
    simp only [cmpD] at e
    split at e
    · simp only [Rep] at rb
      refine op_notN pins s σ H x y v u Q I rx ry ⟨rb, ?_⟩
      rw [isNon_rep ra]
      exact q' _ e
    · cases e
  | isTrue =>
    simp only [cmpD] at e
    split at e
    · rename_i c k
      simp only [Rep] at ra rb
      refine op_isBl pins s σ H x y v u Q I rx ry ⟨_, _, ra, rb, ?_⟩
      have := q' _ e
      cases c <;> cases k <;> exact this
    · cases e
  | notTrue =>
    simp only [cmpD] at e
    split at e
    · rename_i c k
      simp only [Rep] at ra rb
      refine op_notBl pins s σ H x y v u Q I rx ry ⟨_, _, ra, rb, ?_⟩
      have := q' _ e
      cases c <;> cases k <;> exact this
    · cases e
end
end Z

set_option Elab.async false
set_option linter.all false
set_option maxRecDepth 100000
set_option maxHeartbeats 4000000
/-! Ev: readings told by the little language. -/
namespace Z
open PySem L2 PySem.Spec PyProof.Rows

def tEv (K : KW) (f : Env → Store → R (D × Store)) : TE := fun σ H Q => ∃ al U S rho d S',
  SR K al U S H ∧ ER K al S.length U H rho σ ∧ f rho S = .ok (d, S') ∧
  ∀ v H' al', Nxt al S.length H al' S'.length H' → SR K al' U S' H' → Rep K al' S'.length U H' d v → Q v H'
def tEvs (K : KW) (f : Env → Store → R (List D × Store)) : TA := fun σ H Q => ∃ al U S rho ds S',
  SR K al U S H ∧ ER K al S.length U H rho σ ∧ f rho S = .ok (ds, S') ∧
  ∀ vs H' al', Nxt al S.length H al' S'.length H' → SR K al' U S' H' → Reps K al' S'.length U H' ds vs → Q vs H'
def tEvT (K : KW) (f : Env → Store → R (D × Store)) : TT := fun σ H Q => ∃ al U S rho b S',
  SR K al U S H ∧ ER K al S.length U H rho σ ∧ f rho S = .ok (.bl b, S') ∧
  ∀ H' al', Nxt al S.length H al' S'.length H' → SR K al' U S' H' → Q b H'
def tEvP (K : KW) (f : Env → Store → R (Option Int × Store)) : TO := fun σ H Q => ∃ al U S rho o S',
  SR K al U S H ∧ ER K al S.length U H rho σ ∧ f rho S = .ok (o, S') ∧
  ∀ H' al', Nxt al S.length H al' S'.length H' → SR K al' U S' H' → Q o H'

theorem pe_weak {X : Cx} {e : Expr} {t t' : TE} (h : PE X e t) (w : ∀ σ H Q, t' σ H Q → t σ H Q) : PE X e t' := ⟨fun pins s σ H Q I q => h.run pins s σ H Q I (w _ _ _ q)⟩
theorem pt_weak {X : Cx} {e : Expr} {t t' : TT} (h : PT X e t) (w : ∀ σ H Q, t' σ H Q → t σ H Q) : PT X e t' := ⟨fun pins s σ H Q I q => h.run pins s σ H Q I (w _ _ _ q)⟩
theorem pw_weak {X : Cx} {e : Expr} {t t' : TT} (h : PW X e t) (w : ∀ σ H Q, t' σ H Q → t σ H Q) : PW X e t' := ⟨fun wh pins s σ H Q I q => h.run wh pins s σ H Q I (w _ _ _ q)⟩
theorem pa_weak {X : Cx} {e : List Expr} {t t' : TA} (h : PA X e t) (w : ∀ σ H Q, t' σ H Q → t σ H Q) : PA X e t' := ⟨fun pos pins s σ H Q I q => h.run pos pins s σ H Q I (w _ _ _ q)⟩
theorem po_weak {X : Cx} {e : Option Expr} {t t' : TO} (h : PO X e t) (w : ∀ σ H Q, t' σ H Q → t σ H Q) : PO X e t' := ⟨fun pins s σ H Q I q => h.run pins s σ H Q I (w _ _ _ q)⟩
theorem ps_weak {X : Cx} {e : Stmt} {t t' : TS} (h : PS X e t) (w : ∀ D σ H, t' D σ H → t D σ H) : PS X e t' := ⟨fun pins s σ H D I q => h.run pins s σ H D I (w _ _ _ q)⟩
theorem pss_weak {X : Cx} {e : List Stmt} {t t' : TS} (h : PSs X e t) (w : ∀ D σ H, t' D σ H → t D σ H) : PSs X e t' := ⟨fun pins s σ H D I q => h.run pins s σ H D I (w _ _ _ q)⟩
theorem pg_weak {X : Cx} {e : Expr} {t t' : TG} (h : PG X e t) (w : ∀ v σ H Q, t' v σ H Q → t v σ H Q) : PG X e t' := ⟨fun pins s σ H v u Q I r q => h.run pins s σ H v u Q I r (w _ _ _ _ q)⟩
theorem tEv.of {K : KW} {f g : Env → Store → R (D × Store)} (h : ∀ rho S, f rho S = g rho S) {σ : L2.St} {H : Hp} {Q : VK} (q : tEv K f σ H Q) : tEv K g σ H Q := by
  obtain ⟨al, U, S, rho, d, S', sr, er, e, q⟩ := q
  exact ⟨al, U, S, rho, d, S', sr, er, (h rho S).symm.trans e, q⟩

section
variable {X : Cx} {a b c o : Expr} {es rest : List Expr} {pos p2 : Pos} {fa fb fc : Env → Store → R (D × Store)} {fs gs : Env → Store → R (List D × Store)} {fl fh : Env → Store → R (Option Int × Store)}

theorem se_var {i : Nat} {x : Str} (hN : X.N[i]? = some x) (hv : Vis X.env.scope x) (hd : (x == ("__debug__" : Str)) = false) (hcd : (x == ("__classdict__" : Str)) = false) :
    PE X (.Name x pos) (tEv X.kw fun rho S => match rho[i]? with
    | some (some d) => .ok (d, S)
    | _ => .bad) := by
  refine pe_weak (pe_var hN hv hd hcd) fun σ H Q ⟨al, U, S, rho, d, S', sr, er, e, q⟩ => ?_
  simp only at e
  split at e
  · rename_i d' e1
    cases e
    obtain ⟨v, e2, r⟩ := er.2 i _ e1
    exact ⟨v, e2, q v H al .refl sr r⟩
  · cases e
theorem se_con {d : D} {v : V} (h : PE X a (tC v)) (r : ∀ (al : Nat → Addr) (n : Nat) (U : List Addr) (H : Hp), Rep X.kw al n U H d v) : PE X a (tEv X.kw fun _ S => .ok (d, S)) := by
  refine pe_weak h fun σ H Q ⟨al, U, S, rho, d, S', sr, er, e, q⟩ => ?_
  cases e
  exact q v H al .refl sr (r _ _ _ _)
theorem sa_nil : PA X [] (tEvs X.kw fun _ S => .ok ([], S)) := by
  refine pa_weak pa_nil fun σ H Q ⟨al, U, S, rho, d, S', sr, er, e, q⟩ => ?_
  cases e
  exact q [] H al .refl sr (by simp only [Reps])
theorem sa_cons (ha : PE X a (tEv X.kw fa)) (hb : PA X es (tEvs X.kw fs)) (hst : starEach (a :: es) X.env = (false, eval a X.env) :: starEach es X.env) :
    PA X (a :: es) (tEvs X.kw fun rho S => (fa rho S).bind fun p => (fs rho p.2).bind fun q => .ok (p.1 :: q.1, q.2)) := by
  refine pa_weak (pa_cons ha hb hst) fun σ H Q ⟨al, U, S, rho, d, S', sr, er, e, q⟩ => ?_
  obtain ⟨⟨d1, S1⟩, e1, e⟩ := R.bind_ok e
  obtain ⟨⟨d2, S2⟩, e2, e⟩ := R.bind_ok e
  cases e
  refine ⟨al, U, S, rho, d1, S1, sr, er, e1, fun v1 H1 al1 n1 sr1 r1 => ⟨al1, U, S1, rho, d2, S2, sr1, er.nxt n1, e2, fun v2 H2 al2 n2 sr2 r2 => ?_⟩⟩
  refine q _ H2 al2 (sr1.trans n1 n2) sr2 ?_
  simp only [Reps]
  exact ⟨v1, v2, rfl, Rep.nxt n2 _ _ r1, r2⟩
theorem pe_tupP {t : TA} {k : Nat} (h : PA X es t) : PE X (.Tuple es k pos) (fun σ H Q => t σ H fun xs H1 => xs.length ≤ sizeLine ∧ NewT H1 xs Q) := by
  refine ⟨fun pins s σ H Q I hq => wpAny_Tuple_spliced (thn (h.run pos pins s σ H _ I hq) fun us s1 hh => ?_)⟩
  obtain ⟨xs, H1, I1, r, z, q⟩ := hh
  exact ⟨by rw [← r.length]; exact z, lay_tup I1 r z q⟩
theorem se_tup {k : Nat} (h : PA X es (tEvs X.kw fs)) (hl : es.length ≤ sizeLine) (hn : ∀ rho S p, fs rho S = .ok p → p.1.length = es.length) : PE X (.Tuple es k pos) (tEv X.kw fun rho S => (fs rho S).bind fun p => .ok (.tup p.1, p.2)) := by
  refine pe_weak (pe_tupP h) fun σ H Q ⟨al, U, S, rho, d, S', sr, er, e, q⟩ => ?_
  obtain ⟨⟨d1, S1⟩, e1, e⟩ := R.bind_ok e
  cases e
  refine ⟨al, U, S, rho, d1, S1, sr, er, e1, fun vs H1 al1 n1 sr1 r1 => ?_⟩
  have hd : d1.length ≤ sizeLine := by rw [hn _ _ _ e1]; exact hl
  exact ⟨by rw [← r1.length]; exact hd, new_tup sr1 hd r1 fun v H2 al2 n2 sr2 r2 => q v H2 al2 (sr1.trans n1 n2) sr2 r2⟩
theorem se_lst {m : Bool} (h : PA X es (tEvs X.kw fs)) (hl : es.length ≤ sizeLine) (hn : ∀ rho S p, fs rho S = .ok p → p.1.length = es.length) : PE X (.List es pos) (tEv X.kw fun rho S => (fs rho S).bind fun p => litD m p.1 p.2) := by
  refine pe_weak (pe_lst h) fun σ H Q ⟨al, U, S, rho, d, S', sr, er, e, q⟩ => ?_
  obtain ⟨⟨d1, S1⟩, e1, e⟩ := R.bind_ok e
  refine ⟨al, U, S, rho, d1, S1, sr, er, e1, fun vs H1 al1 n1 sr1 r1 => ?_⟩
  have hd : d1.length ≤ sizeLine := by rw [hn _ _ _ e1]; exact hl
  exact ⟨by rw [← r1.length]; exact hd, new_lit sr1 e hd r1 fun v H2 al2 n2 sr2 r2 => q v H2 al2 (sr1.trans n1 n2) sr2 r2⟩
/-- two values, then an operation -/
theorem tEv_two {r : R2} {g : D → D → Store → R (D × Store)} (hr : ∀ x y H Q, tOpD X.kw g x y H Q → r x y H Q) {σ : L2.St} {H : Hp} {Q : VK} (h : tEv X.kw (fun rho S => (fa rho S).bind fun p => (fb rho p.2).bind fun q => g p.1 q.1 q.2) σ H Q) : tOp r (tEv X.kw fa) (tEv X.kw fb) σ H Q := by
  obtain ⟨al, U, S, rho, d, S', sr, er, e, q⟩ := h
  obtain ⟨⟨d1, S1⟩, e1, e⟩ := R.bind_ok e
  obtain ⟨⟨d2, S2⟩, e2, e⟩ := R.bind_ok e
  exact ⟨al, U, S, rho, d1, S1, sr, er, e1, fun v1 H1 al1 n1 sr1 r1 => ⟨al1, U, S1, rho, d2, S2, sr1, er.nxt n1, e2, fun v2 H2 al2 n2 sr2 r2 =>
    hr _ _ _ _ ⟨al2, U, S2, d1, d2, d, S', sr2, Rep.nxt n2 _ _ r1, r2, e, fun v3 H3 al3 n3 sr3 r3 => q v3 H3 al3 (sr1.trans n1 (sr2.trans n2 n3)) sr3 r3⟩⟩⟩
theorem se_bin (o : Op) (ha : PE X a (tEv X.kw fa)) (hb : PE X b (tEv X.kw fb)) : PE X (.BinOp a (opA o) b pos) (tEv X.kw fun rho S => (fa rho S).bind fun p => (fb rho p.2).bind fun q => binD o p.1 q.1 q.2) :=
  pe_weak (pe_op (op_D o) ha hb) fun σ H Q h => tEv_two (fun _ _ _ _ h => h) h
theorem se_neg (ha : PE X a (tEv X.kw fa)) : PE X (.UnaryOp .USub a pos) (tEv X.kw fun rho S => (fa rho S).bind fun p => match p.1 with
    | .int i => .ok (.int (-i), p.2)
    | _ => .bad) := by
  refine pe_weak (pe_un un_neg ha) fun σ H Q ⟨al, U, S, rho, d, S', sr, er, e, q⟩ => ?_
  obtain ⟨⟨d1, S1⟩, e1, e⟩ := R.bind_ok e
  refine ⟨al, U, S, rho, d1, S1, sr, er, e1, fun v1 H1 al1 n1 sr1 r1 => ?_⟩
  simp only at e
  split at e
  · cases e
    simp only [Rep] at r1
    exact ⟨_, r1, q _ _ _ n1 sr1 (by simp only [Rep])⟩
  · cases e
theorem se_not (ha : PE X a (tEv X.kw fa)) : PE X (.UnaryOp .Not a pos) (tEv X.kw fun rho S => (fa rho S).bind fun p => match p.1 with
    | .bl b => .ok (.bl (!b), p.2)
    | _ => .bad) := by
  refine pe_weak (pe_not ha) fun σ H Q ⟨al, U, S, rho, d, S', sr, er, e, q⟩ => ?_
  obtain ⟨⟨d1, S1⟩, e1, e⟩ := R.bind_ok e
  refine ⟨al, U, S, rho, d1, S1, sr, er, e1, fun v1 H1 al1 n1 sr1 r1 => ?_⟩
  simp only at e
  split at e
  · cases e
    simp only [Rep] at r1
    exact ⟨_, r1, q _ _ _ n1 sr1 (by simp only [Rep])⟩
  · cases e
theorem st_not (ha : PT X a (tEvT X.kw fa)) : PT X (.UnaryOp .Not a pos) (tEvT X.kw fun rho S => (fa rho S).bind fun p => match p.1 with
    | .bl b => .ok (.bl (!b), p.2)
    | _ => .bad) := by
  refine pt_weak (pt_not ha) fun σ H Q ⟨al, U, S, rho, d, S', sr, er, e, q⟩ => ?_
  obtain ⟨⟨d1, S1⟩, e1, e⟩ := R.bind_ok e
  simp only at e
  split at e
  · rename_i b
    cases e
    exact ⟨al, U, S, rho, b, _, sr, er, e1, fun H1 al1 n1 sr1 => q _ _ n1 sr1⟩
  · cases e
/-- a test by its value -/
theorem st_val (ha : PE X a (tEv X.kw fa)) (he : ∀ whole, isTrue a X.env whole = (do let v ← whole; standAt a.pos; holding [v] (truthy v))) : PT X a (tEvT X.kw fa) := by
  refine pt_weak (pt_val ha he) fun σ H Q ⟨al, U, S, rho, d, S', sr, er, e, q⟩ => ?_
  refine ⟨al, U, S, rho, .bl d, S', sr, er, e, fun v H1 al1 n1 sr1 r1 => ?_⟩
  simp only [Rep] at r1
  exact ⟨d, r1, q _ _ n1 sr1⟩
theorem se_cmp (hu : X.A.units + 64 < cLine) (o : Cm) (ha : PE X a (tEv X.kw fa)) (hb : PE X b (tEv X.kw fb)) (hm : behindInMarks (cmA o) b = false) :
    PE X (.Compare a [cmA o] [b] pos) (tEv X.kw fun rho S => (fa rho S).bind fun p => (fb rho p.2).bind fun q => cmpD o p.1 q.1 q.2) :=
  pe_weak (pe_cmpR (cmp_D hu o) ha hb hm) fun σ H Q h => tEv_two (fun _ _ _ _ h => h) h
theorem st_cmp (hu : X.A.units + 64 < cLine) (o : Cm) (ha : PE X a (tEv X.kw fa)) (hb : PE X b (tEv X.kw fb)) (hm : behindInMarks (cmA o) b = false) :
    PT X (.Compare a [cmA o] [b] pos) (tEvT X.kw fun rho S => (fa rho S).bind fun p => (fb rho p.2).bind fun q => cmpD o p.1 q.1 q.2) := by
  refine pt_weak (pt_cmpR (cmp_D hu o) ha hb hm) fun σ H Q ⟨al, U, S, rho, d, S', sr, er, e, q⟩ => ?_
  refine tEv_two (g := cmpD o) (fun _ _ _ _ h => h) ⟨al, U, S, rho, .bl d, S', sr, er, e, fun v H1 al1 n1 sr1 r1 => ?_⟩
  simp only [Rep] at r1
  exact ⟨d, r1, q _ _ n1 sr1⟩
theorem tEv_chain {o o' : Cm} {σ : L2.St} {H : Hp} {Q : VK} (h : tEv X.kw (fun rho S => (fa rho S).bind fun p => (fb rho p.2).bind fun q => (cmpD o p.1 q.1 q.2).bind fun r => match r.1 with
      | .bl true => (fc rho r.2).bind fun s => cmpD o' q.1 s.1 s.2
      | .bl false => .ok (.bl false, r.2)
      | _ => .bad) σ H Q) : tChain (tOpD X.kw (cmpD o)) (tOpD X.kw (cmpD o')) (tEv X.kw fa) (tEv X.kw fb) (tEv X.kw fc) σ H Q := by
  obtain ⟨al, U, S, rho, d, S', sr, er, e, q⟩ := h
  obtain ⟨⟨d1, S1⟩, e1, e⟩ := R.bind_ok e
  obtain ⟨⟨d2, S2⟩, e2, e⟩ := R.bind_ok e
  obtain ⟨⟨d3, S3⟩, e3, e⟩ := R.bind_ok e
  refine ⟨al, U, S, rho, d1, S1, sr, er, e1, fun v1 H1 al1 n1 sr1 r1 => ⟨al1, U, S1, rho, d2, S2, sr1, er.nxt n1, e2, fun v2 H2 al2 n2 sr2 r2 =>
    ⟨al2, U, S2, d1, d2, d3, S3, sr2, Rep.nxt n2 _ _ r1, r2, e3, fun v3 H3 al3 n3 sr3 r3 => ?_⟩⟩⟩
  have n13 := sr1.trans n1 (sr2.trans n2 n3)
  simp only at e
  split at e
  · simp only [Rep] at r3
    refine ⟨true, r3, ?_⟩
    rw [if_pos rfl]
    obtain ⟨⟨d4, S4⟩, e4, e⟩ := R.bind_ok e
    exact ⟨al3, U, S3, rho, d4, S4, sr3, er.nxt n13, e4, fun v4 H4 al4 n4 sr4 r4 => ⟨al4, U, S4, d2, d4, d, S', sr4, Rep.nxt n4 _ _ (Rep.nxt n3 _ _ r2), r4, e, fun v5 H5 al5 n5 sr5 r5 => q v5 H5 al5 (sr3.trans n13 (sr4.trans n4 n5)) sr5 r5⟩⟩
  · cases e
    simp only [Rep] at r3
    refine ⟨false, r3, ?_⟩
    rw [if_neg Bool.false_ne_true]
    exact q _ _ _ n13 sr3 (by simp only [Rep])
  · cases e
theorem se_chain (hu : X.A.units + 64 < cLine) (o o' : Cm) (ha : PE X a (tEv X.kw fa)) (hb : PE X b (tEv X.kw fb)) (hc : PE X c (tEv X.kw fc)) (hm : lastMarks [cmA o, cmA o'] [b, c] = false) :
    PE X (.Compare a [cmA o, cmA o'] [b, c] pos) (tEv X.kw fun rho S => (fa rho S).bind fun p => (fb rho p.2).bind fun q => (cmpD o p.1 q.1 q.2).bind fun r => match r.1 with
      | .bl true => (fc rho r.2).bind fun s => cmpD o' q.1 s.1 s.2
      | .bl false => .ok (.bl false, r.2)
      | _ => .bad) :=
  pe_weak (pe_chain (cmp_D hu o) (cmp_D hu o') ha hb hc hm) fun σ H Q h => tEv_chain h
theorem st_chain (hu : X.A.units + 64 < cLine) (o o' : Cm) (ha : PE X a (tEv X.kw fa)) (hb : PE X b (tEv X.kw fb)) (hc : PE X c (tEv X.kw fc)) (hm : lastMarks [cmA o, cmA o'] [b, c] = false) :
    PT X (.Compare a [cmA o, cmA o'] [b, c] pos) (tEvT X.kw fun rho S => (fa rho S).bind fun p => (fb rho p.2).bind fun q => (cmpD o p.1 q.1 q.2).bind fun r => match r.1 with
      | .bl true => (fc rho r.2).bind fun s => cmpD o' q.1 s.1 s.2
      | .bl false => .ok (.bl false, r.2)
      | _ => .bad) := by
  refine pt_weak (pt_chain (cmp_D hu o) (cmp_D hu o') ha hb hc hm) fun σ H Q ⟨al, U, S, rho, d, S', sr, er, e, q⟩ => ?_
  refine tEv_chain (o := o) (o' := o') ⟨al, U, S, rho, .bl d, S', sr, er, e, fun v H1 al1 n1 sr1 r1 => ?_⟩
  simp only [Rep] at r1
  exact ⟨d, r1, q _ _ n1 sr1⟩
theorem se_one {op : BoolOp} (ha : PE X a (tEv X.kw fa)) : PE X (.BoolOp op [a] pos) (tEv X.kw fa) := pe_one ha
theorem se_and (ha : PE X a (tEv X.kw fa)) (hb : PE X (.BoolOp .And (b :: rest) pos) (tEv X.kw fb)) : PE X (.BoolOp .And (a :: b :: rest) pos) (tEv X.kw fun rho S => (fa rho S).bind fun p => match p.1 with
    | .bl true => fb rho p.2
    | .bl false => .ok (.bl false, p.2)
    | _ => .bad) := by
  refine pe_weak (pe_and ha hb) fun σ H Q ⟨al, U, S, rho, d, S', sr, er, e, q⟩ => ?_
  obtain ⟨⟨d1, S1⟩, e1, e⟩ := R.bind_ok e
  refine ⟨al, U, S, rho, d1, S1, sr, er, e1, fun v1 H1 al1 n1 sr1 r1 => ?_⟩
  simp only at e
  split at e
  · simp only [Rep] at r1
    refine ⟨true, r1, ?_⟩
    rw [if_pos rfl]
    exact ⟨al1, U, S1, rho, d, S', sr1, er.nxt n1, e, fun v2 H2 al2 n2 sr2 r2 => q v2 H2 al2 (sr1.trans n1 n2) sr2 r2⟩
  · cases e
    simp only [Rep] at r1
    refine ⟨false, r1, ?_⟩
    rw [if_neg Bool.false_ne_true]
    exact q _ _ _ n1 sr1 (by simp only [Rep])
  · cases e
theorem se_or (ha : PE X a (tEv X.kw fa)) (hb : PE X (.BoolOp .Or (b :: rest) pos) (tEv X.kw fb)) : PE X (.BoolOp .Or (a :: b :: rest) pos) (tEv X.kw fun rho S => (fa rho S).bind fun p => match p.1 with
    | .bl true => .ok (.bl true, p.2)
    | .bl false => fb rho p.2
    | _ => .bad) := by
  refine pe_weak (pe_or ha hb) fun σ H Q ⟨al, U, S, rho, d, S', sr, er, e, q⟩ => ?_
  obtain ⟨⟨d1, S1⟩, e1, e⟩ := R.bind_ok e
  refine ⟨al, U, S, rho, d1, S1, sr, er, e1, fun v1 H1 al1 n1 sr1 r1 => ?_⟩
  simp only at e
  split at e
  · cases e
    simp only [Rep] at r1
    refine ⟨true, r1, ?_⟩
    rw [if_pos rfl]
    exact q _ _ _ n1 sr1 (by simp only [Rep])
  · simp only [Rep] at r1
    refine ⟨false, r1, ?_⟩
    rw [if_neg Bool.false_ne_true]
    exact ⟨al1, U, S1, rho, d, S', sr1, er.nxt n1, e, fun v2 H2 al2 n2 sr2 r2 => q v2 H2 al2 (sr1.trans n1 n2) sr2 r2⟩
  · cases e
theorem sw_and1 (ha : PT X a (tEvT X.kw fa)) : PW X (.BoolOp .And [a] pos) (tEvT X.kw fa) := pw_and1 ha
theorem sw_or1 (ha : PT X a (tEvT X.kw fa)) : PW X (.BoolOp .Or [a] pos) (tEvT X.kw fa) := pw_or1 ha
theorem sw_and (ha : PT X a (tEvT X.kw fa)) (hb : PW X (.BoolOp .And (b :: rest) pos) (tEvT X.kw fb)) : PW X (.BoolOp .And (a :: b :: rest) pos) (tEvT X.kw fun rho S => (fa rho S).bind fun p => match p.1 with
    | .bl true => fb rho p.2
    | .bl false => .ok (.bl false, p.2)
    | _ => .bad) := by
  refine pw_weak (pw_and ha hb) fun σ H Q ⟨al, U, S, rho, d, S', sr, er, e, q⟩ => ?_
  obtain ⟨⟨d1, S1⟩, e1, e⟩ := R.bind_ok e
  simp only at e
  split at e
  · refine ⟨al, U, S, rho, true, S1, sr, er, e1, fun H1 al1 n1 sr1 => ?_⟩
    show if true = true then _ else _
    rw [if_pos rfl]
    exact ⟨al1, U, S1, rho, d, S', sr1, er.nxt n1, e, fun H2 al2 n2 sr2 => q H2 al2 (sr1.trans n1 n2) sr2⟩
  · cases e
    refine ⟨al, U, S, rho, false, _, sr, er, e1, fun H1 al1 n1 sr1 => ?_⟩
    show if false = true then _ else _
    rw [if_neg Bool.false_ne_true]
    exact q _ _ n1 sr1
  · cases e
theorem sw_or (ha : PT X a (tEvT X.kw fa)) (hb : PW X (.BoolOp .Or (b :: rest) pos) (tEvT X.kw fb)) : PW X (.BoolOp .Or (a :: b :: rest) pos) (tEvT X.kw fun rho S => (fa rho S).bind fun p => match p.1 with
    | .bl true => .ok (.bl true, p.2)
    | .bl false => fb rho p.2
    | _ => .bad) := by
  refine pw_weak (pw_or ha hb) fun σ H Q ⟨al, U, S, rho, d, S', sr, er, e, q⟩ => ?_
  obtain ⟨⟨d1, S1⟩, e1, e⟩ := R.bind_ok e
  simp only at e
  split at e
  · cases e
    refine ⟨al, U, S, rho, true, _, sr, er, e1, fun H1 al1 n1 sr1 => ?_⟩
    show if true = true then _ else _
    rw [if_pos rfl]
    exact q _ _ n1 sr1
  · refine ⟨al, U, S, rho, false, S1, sr, er, e1, fun H1 al1 n1 sr1 => ?_⟩
    show if false = true then _ else _
    rw [if_neg Bool.false_ne_true]
    exact ⟨al1, U, S1, rho, d, S', sr1, er.nxt n1, e, fun H2 al2 n2 sr2 => q H2 al2 (sr1.trans n1 n2) sr2⟩
  · cases e
theorem se_dct0 : PE X (.Dict [] [] pos) (tEv X.kw fun _ S => .ok (.ref S.length, S ++ [.dct [] []])) := by
  refine pe_weak pe_dnewK fun σ H Q ⟨al, U, S, rho, d, S', sr, er, e, q⟩ => ?_
  cases e
  intro p hp
  obtain ⟨n1, s1, e1⟩ := sr.make (ho := .dK []) (o := .dct [] []) hp (fun g => ⟨[], upd_same, Nat.zero_le _, rfl, by simp [Reps], List.nodup_nil, fun _ h => nomatch h⟩)
  refine q _ _ _ n1 s1 ?_
  simp only [Rep]
  exact ⟨by simp, by rw [e1]⟩

theorem se_dcn0 : PE X (.Dict [] [] pos) (tEv X.kw fun _ S => .ok (.ref S.length, S ++ [.dcn [] []])) := by
  refine ⟨fun pins s σ H Q I h => ?_⟩
  obtain ⟨al, U, S, rho, d, S', sr, er, e, q⟩ := h
  cases e
  have hn := I.hok.fresh (Nat.le_refl s.heap.objs.size)
  have hs : (s.heap.objs.size == sysModules) = false := beq_eq_false_iff_ne.mpr (Ne.symm (Nat.ne_of_lt I.big))
  obtain ⟨n1, s1, e1⟩ := sr.make (ho := .ext (ndP X.w s.heap.objs.size [])) (o := .dcn [] []) hn fun g => ⟨[], [], [], upd_same, ⟨hs, Nat.zero_le _, List.nodup_nil, rfl, rfl, .nil⟩, by simp [Reps], by simp [Reps]⟩
  refine wpAny_Dict_empty ⟨.ref s.heap.objs.size, _, I.laid (a := s.heap.objs.size) (o := .ext (ndP X.w s.heap.objs.size [])) (t' := s.toks) (fun _ _ q => Heap.get?_push_of_some _ q) (Nat.le_refl _) (nd_ok ⟨_, #[], 0, Heap.get?_push_size _ rfl, ⟨rfl, rfl, rfl⟩, rfl, rfl⟩), rfl, q _ _ _ n1 s1 ?_⟩
  simp only [Rep]
  exact ⟨by simp, by rw [e1]⟩

/-! ### subscripts, slices -/
theorem atI_rep {K : KW} {al : Nat → Addr} {n : Nat} {U : List Addr} {H : Hp} {ds : List D} {vs : List V} {j : Int} {d : D} (r : Reps K al n U H ds vs) (e : atI ds j = some d) : ∃ v, atI vs j = some v ∧ Rep K al n U H d v := by
  unfold atI at e ⊢
  rw [r.length] at e
  cases h : ixN vs.length j with
  | none => rw [h] at e; cases e
  | some k =>
    rw [h] at e
    simp only [Option.bind_some] at e ⊢
    exact r.get e
theorem ix_D (hu : X.A.units + 64 < cLine) : IxR X (tOpD X.kw ixD) := by
  intro value slice pins s σ H x y v u Q I rx ry ⟨al, U, S, a, b, d, S', sr, ra, rb, e, q⟩ hs
  have q' : ∀ d' v', R.ok (d', S) = R.ok (d, S') → Rep X.kw al S.length U H d' v' → Q v' H := fun d' v' h r => by
    cases h
    exact q _ _ _ .refl sr r
  cases a with
  | str z =>
    cases b with
    | int j =>
      simp only [ixD] at e
      split at e
      · rename_i c hc
        simp only [Rep] at ra rb
        refine ix_str value slice pins s σ H x y v u Q I rx ry ⟨_, j, c.toNat, ra.1, rb, by rw [toS_length]; exact ra.2, ?_, ?_⟩ hs
        · show atI (z.map Char.toNat).toArray.toList j = some c.toNat
          unfold atI at hc ⊢
          rw [List.toList_toArray, List.length_map]
          cases h : ixN z.length j with
          | none => rw [h] at hc; cases hc
          | some k =>
            rw [h] at hc
            simp only [Option.bind_some] at hc ⊢
            rw [List.getElem?_map, hc]
            rfl
        · exact q' _ _ e (by simp only [Rep]; exact ⟨rfl, (by decide : 1 ≤ sizeLine)⟩)
      · cases e
    | _ => simp [ixD] at e
  | tup ds =>
    cases b with
    | int j =>
      simp only [ixD] at e
      split at e
      · rename_i c hc
        simp only [Rep] at ra rb
        obtain ⟨p, vs, rfl, t, l, rs⟩ := ra
        obtain ⟨w, hw, rw'⟩ := atI_rep rs hc
        exact ix_tup value slice pins s σ H _ y v u Q I rx ry ⟨p, vs, j, w, rfl, rb, t.sq, hw, q' _ _ e rw'⟩ hs
      · cases e
    | _ => simp [ixD] at e
  | lst ds =>
    cases b with
    | int j =>
      simp only [ixD] at e
      split at e
      · rename_i c hc
        simp only [Rep] at ra rb
        obtain ⟨p, vs, rfl, t, l, rs⟩ := ra
        obtain ⟨w, hw, rw'⟩ := atI_rep rs hc
        exact ix_list value slice pins s σ H _ y v u Q I rx ry ⟨p, vs, j, w, rfl, rb, t.sq, hw, q' _ _ e rw'⟩ hs
      · cases e
    | _ => simp [ixD] at e
  | ref m =>
    simp only [Rep] at ra
    obtain ⟨hm, rfl⟩ := ra
    cases ho : S[m]? with
    | none => simp [ixD, ho] at e
    | some ob =>
      cases ob with
      | lst ds =>
        obtain ⟨vs, h1, l, rs⟩ := sr.obj m _ ho
        cases b with
        | int j =>
          simp only [ixD, ho] at e
          split at e
          · rename_i c hc
            simp only [Rep] at rb
            obtain ⟨w, hw, rw'⟩ := atI_rep rs hc
            exact ix_list value slice pins s σ H _ y v u Q I rx ry ⟨_, vs, j, w, rfl, rb, SqL.of h1, hw, q' _ _ e rw'⟩ hs
          · cases e
        | _ => simp [ixD, ho] at e
      | dct ks vs =>
        obtain ⟨kvs, h1, l, r1, r2, r3, r4⟩ := sr.obj m _ ho
        simp only [ixD, ho] at e
        split at e
        · rename_i hf
          split at e
          · rename_i c hc
            obtain ⟨ky, ek, ex⟩ := keyOk_rep rb hf.1
            obtain ⟨_, f2⟩ := findK_val hf.1 ek hf.2 r1 r2
            obtain ⟨w, hw, rw'⟩ := f2 c hc
            obtain rfl : v = Value.ref (al m) := rx
            have g : DGet H (al m) y (some w) := by rw [ex, ← hw]; exact DGet.k h1
            have hd := d_getItem (E := X.xe) (A := X.A) (Q := EP X pins σ Q) (by omega) I g ry fun w' s3 I3 rw3 => ⟨w, H, I3, rw3, q' _ _ e rw'⟩
            exact tail_any (ops := [.ref (al m), u]) (dict_typeIs I g) PySem.F.slot_dict_getitem.lookup hd hs
          · cases e
        · cases e
      | dcn ks vs =>
        simp only [ixD, ho] at e
        split at e
        · rename_i c hc
          obtain ⟨ky, ek, hf⟩ := Option.bind_eq_some_iff.mp hc
          obtain rfl : v = Value.ref (al m) := rx
          obtain ⟨tI, hd⟩ := n_getItem (E := X.xe) (Q := EP X pins σ Q) hu I ry rb (sr.obj m _ ho) ek hf fun w w' s3 I3 rw3 rw4 => ⟨w, H, I3, rw3, q' _ _ e rw4⟩
          exact tail_any (ops := [.ref (al m), u]) tI PySem.F.slot_dict_getitem.lookup hd hs
        · cases e
  | _ => cases b <;> simp [ixD] at e
theorem se_ix (hu : X.A.units + 64 < cLine) (ha : PE X a (tEv X.kw fa)) (hb : PE X b (tEv X.kw fb)) (hp : PlainIx b) : PE X (.Subscript a b pos) (tEv X.kw fun rho S => (fa rho S).bind fun p => (fb rho p.2).bind fun q => ixD p.1 q.1 q.2) :=
  pe_weak (pe_ix (ix_D hu) ha hb hp) fun σ H Q h => tEv_two (fun _ _ _ _ h => h) h
end
end Z

set_option Elab.async false
set_option linter.all false
set_option maxRecDepth 100000
set_option maxHeartbeats 4000000
/-! Ev2: slices, calls of what is built in. -/
namespace Z
open PySem L2 PySem.Spec PyProof.Rows

section
variable {X : Cx} {a b c o : Expr} {es rest : List Expr} {pos p2 : Pos} {fa fb fc : Env → Store → R (D × Store)} {fs gs : Env → Store → R (List D × Store)} {fl fh : Env → Store → R (Option Int × Store)}

theorem so_none : PO X none (tEvP X.kw fun _ S => .ok (none, S)) := by
  refine po_weak po_none fun σ H Q ⟨al, U, S, rho, d, S', sr, er, e, q⟩ => ?_
  cases e
  exact q H al .refl sr
theorem so_some (ha : PE X a (tEv X.kw fa)) : PO X (some a) (tEvP X.kw fun rho S => (fa rho S).bind partD) := by
  refine po_weak (po_some ha) fun σ H Q ⟨al, U, S, rho, d, S', sr, er, e, q⟩ => ?_
  obtain ⟨⟨d1, S1⟩, e1, e⟩ := R.bind_ok e
  refine ⟨al, U, S, rho, d1, S1, sr, er, e1, fun v1 H1 al1 n1 sr1 r1 => ?_⟩
  unfold partD at e
  split at e
  · rename_i i hi
    simp only at hi
    subst hi
    cases e
    simp only [Rep] at r1
    exact ⟨i, r1, q _ _ n1 sr1⟩
  · cases e
theorem cutS_toS (x : List Char) (lo hi : Option Int) : cutS (toS x) lo hi = toS (cut x lo hi) := by
  unfold cutS cut toS
  congr 1
  show (List.take _ (List.drop _ (x.map Char.toNat).toArray.toList)).toArray = _
  rw [List.toList_toArray, List.map_take, List.map_drop]
  have : (⟨(x.map Char.toNat).toArray⟩ : Str).length = x.length := toS_length x
  rw [this]
def tSlD (K : KW) (m : Bool) : V → Option Int → Option Int → Hp → VK → Prop := fun x lo hi H Q => ∃ al U S a d S',
  SR K al U S H ∧ Rep K al S.length U H a x ∧ slD m a lo hi S = .ok (d, S') ∧
  ∀ v H' al', Nxt al S.length H al' S'.length H' → SR K al' U S' H' → Rep K al' S'.length U H' d v → Q v H'
theorem cut_length {A : Type} (x : List A) (lo hi : Option Int) : (cut x lo hi).length ≤ x.length := by
  unfold cut
  rw [List.length_take, List.length_drop]
  omega
theorem items_rep {K : KW} {al : Nat → Addr} {U : List Addr} {S : Store} {H : Hp} {a : D} {x : V} {ds : List D} (sr : SR K al U S H) (ra : Rep K al S.length U H a x) (e : items S a = some ds) :
    ∃ p vs, x = .ref p ∧ (SqL K H p vs ∨ SqT K H p vs) ∧ ds.length ≤ sizeLine ∧ Reps K al S.length U H ds vs := by
  cases a with
  | tup es =>
    cases e
    simp only [Rep] at ra
    obtain ⟨p, vs, rfl, t, l, r⟩ := ra
    exact ⟨p, vs, rfl, .inr t.sq, l, r⟩
  | lst es =>
    cases e
    simp only [Rep] at ra
    obtain ⟨p, vs, rfl, t, l, r⟩ := ra
    exact ⟨p, vs, rfl, .inl t.sq, l, r⟩
  | ref m =>
    simp only [Rep] at ra
    obtain ⟨hm, rfl⟩ := ra
    unfold items at e
    cases ho : S[m]? with
    | none => simp [ho] at e
    | some ob =>
      cases ob with
      | lst es =>
        simp only [ho, Option.some.injEq] at e
        subst e
        obtain ⟨vs, h1, l, rs⟩ := sr.obj m _ ho
        exact ⟨_, vs, rfl, .inl (SqL.of h1), l, rs⟩
      | _ => simp [ho] at e
  | _ => cases e
theorem items_lst {K : KW} {al : Nat → Addr} {U : List Addr} {S : Store} {H : Hp} {a : D} {x : V} {ds : List D} (hT : ∀ es, a ≠ .tup es) (sr : SR K al U S H) (ra : Rep K al S.length U H a x) (e : items S a = some ds) :
    ∃ p vs, x = .ref p ∧ SqL K H p vs ∧ ds.length ≤ sizeLine ∧ Reps K al S.length U H ds vs := by
  cases a with
  | tup es => exact absurd rfl (hT es)
  | lst es =>
    cases e
    simp only [Rep] at ra
    obtain ⟨p, vs, rfl, t, l, r⟩ := ra
    exact ⟨p, vs, rfl, t.sq, l, r⟩
  | ref m =>
    simp only [Rep] at ra
    obtain ⟨hm, rfl⟩ := ra
    unfold items at e
    cases ho : S[m]? with
    | none => simp [ho] at e
    | some ob =>
      cases ob with
      | lst es =>
        simp only [ho, Option.some.injEq] at e
        subst e
        obtain ⟨vs, h1, l, rs⟩ := sr.obj m _ ho
        exact ⟨_, vs, rfl, SqL.of h1, l, rs⟩
      | _ => simp [ho] at e
  | _ => cases e
theorem sl_D (m : Bool) : SlR X (tSlD X.kw m) := by
  intro pins s σ H x v vl vu lo hi sl Q I rx hs pl pu ⟨al, U, S, a, d, S', sr, ra, e, q⟩
  have lst : (∀ es, a ≠ .tup es) → (∀ z, a ≠ .str z) → ∃ T id, typeLookup (.type T) "__getitem__" = pure (some (.builtin id)) ∧ s.TypeIs v T ∧ wpAny (model X.prog X.w) X.A (getItem v (.ref sl)) (EP X pins σ Q) X.xe s := by
    intro hT hS
    have e' : (match items S a with
      | some ds => litD m (Z.cut ds lo hi) S
      | none => .bad) = R.ok (d, S') := by
      cases a <;> first | exact e | exact absurd rfl (hT _) | exact absurd rfl (hS _)
    split at e'
    · rename_i ds ei
      obtain ⟨p, vs, rfl, hq, l, rs⟩ := items_lst hT sr ra ei
      exact sl_list pins s σ H _ v vl vu lo hi sl Q I rx hs pl pu ⟨p, vs, rfl, hq, new_lit sr e' (Nat.le_trans (cut_length _ _ _) l) (rs.cut lo hi) q⟩
    · cases e'
  cases a with
  | str z =>
    cases e
    simp only [Rep] at ra
    refine sl_str pins s σ H x v vl vu lo hi sl Q I rx hs pl pu ⟨_, ra.1, by rw [toS_length]; exact ra.2, ?_⟩
    rw [cutS_toS]
    exact q _ _ _ .refl sr (by simp only [Rep]; exact ⟨trivial, Nat.le_trans (cut_length _ _ _) ra.2⟩)
  | tup ds =>
    simp only [slD] at e
    cases e
    simp only [Rep] at ra
    obtain ⟨p, vs, rfl, t, l, rs⟩ := ra
    refine sl_tupP pins s σ H _ v vl vu lo hi sl Q I rx hs pl pu ⟨p, vs, rfl, t.sq, fun hw => ?_, new_tup sr (Nat.le_trans (cut_length _ _ _) l) (rs.cut lo hi) q⟩
    refine q _ _ _ .refl sr ?_
    have ec : Z.cut ds lo hi = ds := by
      unfold Z.cut
      rw [rs.length, hw.1, hw.2, Nat.sub_zero, List.drop_zero, ← rs.length, List.take_length]
    rw [ec]
    simp only [Rep]
    exact ⟨p, vs, rfl, t, l, rs⟩
  | non => exact lst (fun _ h => nomatch h) (fun _ h => nomatch h)
  | bl _ => exact lst (fun _ h => nomatch h) (fun _ h => nomatch h)
  | int _ => exact lst (fun _ h => nomatch h) (fun _ h => nomatch h)
  | lst _ => exact lst (fun _ h => nomatch h) (fun _ h => nomatch h)
  | ref _ => exact lst (fun _ h => nomatch h) (fun _ h => nomatch h)
  | fn _ => exact lst (fun _ h => nomatch h) (fun _ h => nomatch h)
theorem se_sl {m : Bool} {lo hi : Option Expr} (ha : PE X a (tEv X.kw fa)) (hl : PO X lo (tEvP X.kw fl)) (hh : PO X hi (tEvP X.kw fh)) :
    PE X (.Subscript a (.Slice lo hi none p2) pos) (tEv X.kw fun rho S => (fa rho S).bind fun p => (fl rho p.2).bind fun q => (fh rho q.2).bind fun r => slD m p.1 q.1 r.1 r.2) := by
  refine pe_weak (pe_slice (sl_D m) ha hl hh) fun σ H Q ⟨al, U, S, rho, d, S', sr, er, e, q⟩ => ?_
  obtain ⟨⟨d1, S1⟩, e1, e⟩ := R.bind_ok e
  obtain ⟨⟨d2, S2⟩, e2, e⟩ := R.bind_ok e
  obtain ⟨⟨d3, S3⟩, e3, e⟩ := R.bind_ok e
  exact ⟨al, U, S, rho, d1, S1, sr, er, e1, fun v1 H1 al1 n1 sr1 r1 => ⟨al1, U, S1, rho, d2, S2, sr1, er.nxt n1, e2, fun H2 al2 n2 sr2 =>
    have n12 := sr1.trans n1 n2
    ⟨al2, U, S2, rho, d3, S3, sr2, er.nxt n12, e3, fun H3 al3 n3 sr3 => ⟨al3, U, S3, d1, d, S', sr3, Rep.nxt n3 _ _ (Rep.nxt n2 _ _ r1), e, fun v4 H4 al4 n4 sr4 r4 => q v4 H4 al4 (sr2.trans n12 (sr3.trans n3 n4)) sr4 r4⟩⟩⟩⟩

/-! ### a text turned about -/
def revS (x : Str) : Str := ⟨x.cps.toList.reverse.toArray⟩
def tRevS (te : TE) : TE := fun σ H Q => te σ H fun x H1 => ∃ z, x = .str z ∧ z.length ≤ sizeLine ∧ Q (.str (revS z)) H1
theorem rev_by (x : Str) (u : Tok) : Txt.sliceBy x none none (-1, u) = revS x := by
  have h := step_rev_list x u
  have e : (Txt.sliceBy x none none (-1, u)).cps.toList = (revS x).cps.toList := by
    rw [h]
    show _ = x.cps.toList.reverse.toArray.toList
    rw [List.toList_toArray]
    apply List.ext_getElem
    · simp [Str.length]
    · intro i h1 h2
      simp only [List.length_map, List.length_range] at h1
      simp only [List.getElem_map, List.getElem_range, List.getElem_reverse]
      have hi : x.length - 1 - i < x.cps.size := by
        show x.cps.size - 1 - i < _
        have : i < x.cps.size := h1
        omega
      rw [Array.getD_eq_getD_getElem?, Array.getElem?_eq_getElem hi]
      simp only [Option.getD_some, Array.length_toList, Array.getElem_toList]
      rfl
  cases h1 : Txt.sliceBy x none none (-1, u) with
  | mk c =>
    rw [h1] at e
    have : c = (revS x).cps := Array.toList_inj.mp e
    rw [this]
theorem pe_revS {e : Expr} {te : TE} {k : Nat} {p1 p2 p3 pos : Pos} (he : PE X e te) : PE X (.Subscript e (.Slice none none (some (.UnaryOp .USub (.Constant (.int 1) k p1) p2)) p3) pos) (tRevS te) := by
  refine ⟨fun pins s σ H Q I h => ?_⟩
  refine Subscript_ (thn (he.run pins s σ H _ I h) fun v s1 ⟨x, H1, I1, r1, q1⟩ => ?_)
  obtain ⟨z, ex, hz, q⟩ := q1
  subst ex
  obtain ⟨tz, rfl⟩ := r1
  have hst : PO X (some (.UnaryOp .USub (.Constant (.int 1) k p1) p2)) (tPart (tUn (rU fun i => .int (-i)) (tC (.int 1)))) := po_some (pe_un un_neg pe_int)
  refine wpAny_Slice (thn (po_none.run pins s1 σ H1 (fun o H2 => o = none ∧ H2 = H1) I1 ⟨rfl, rfl⟩) fun vl s2 ⟨l, H2, I2, pl, el, e2⟩ => ?_)
  subst el e2
  refine thn (po_none.run pins s2 σ H2 (fun o H3 => o = none ∧ H3 = H2) I2 ⟨rfl, rfl⟩) fun vu s3 ⟨u, H3, I3, pu, eu, e3⟩ => ?_
  subst eu e3
  refine thn (hst.run pins s3 σ H3 (fun o H4 => o = some (-1) ∧ H4 = H3) I3 ⟨1, rfl, -1, rfl, rfl, rfl⟩) fun vs s4 ⟨o, H4, I4, ps, eo, e4⟩ => ?_
  subst eo e4
  cases pl
  cases pu
  obtain ⟨sp, e5, e6⟩ := IsPart.raw ps
  cases sp with
  | none => cases e6
  | some sp =>
    obtain ⟨w, uk⟩ := sp
    have ew : w = -1 := by
      have : some w = some (-1) := e6
      exact Option.some.inj this
    subst ew
    have e7 : vs = .int (-1) uk := e5
    subst e7
    have I5 : Inv X pins σ H4 { s4 with heap := s4.heap.push { cls := .type "slice", data := .fields #[.none, .none, .int (-1) uk] } } := I4.kept (t' := s4.toks) fun b ob q => Heap.get?_push_of_some _ q
    show wpAny (model X.prog X.w) X.A (subscriptTail e (.Slice none none (some (.UnaryOp .USub (.Constant (.int 1) k p1) p2)) p3) (.str z tz) (.ref s4.heap.objs.size)) (EP X pins σ Q) X.xe { s4 with heap := s4.heap.push { cls := .type "slice", data := .fields #[.none, .none, .int (-1) uk] } }
    refine tail_any (ops := [.str z tz, .ref s4.heap.objs.size]) (typeIs_str _ _ _) F.slot_str_getitem.lookup ?_ (by with_unfolding_all rfl)
    refine wpAny_getItem_str_slice (l := none) (u := none) (st := some (-1, uk)) ⟨_, Heap.get?_push_size _ rfl, rfl, rfl⟩ rfl (post_val_or_str ⟨Nat.le_trans (Txt.sliceBy_le z _ _ (-1, uk) (show (-1 : Int) ≠ 0 by decide)) hz, fun t' c => ?_⟩)
    have er : Txt.sliceBy z none none (-1, uk) = revS z := rev_by z uk
    show EP X pins σ Q (.str (Txt.sliceBy z none none (-1, uk)) t') _
    rw [er]
    exact ⟨.str (revS z), H4, I5.tok _, ⟨t', rfl⟩, q⟩
theorem revS_toS (x : List Char) : revS (toS x) = toS x.reverse := by
  unfold revS toS
  simp
end
end Z

set_option Elab.async false
set_option linter.all false
set_option maxRecDepth 100000
set_option maxHeartbeats 4000000
/-! Ev3: what is built in, by values. -/
namespace Z
open PySem L2 PySem.Spec PyProof.Rows

/-! ### sorting -/
theorem leS_iff (x y : List Char) : leS x y = true ↔ x.map Char.toNat ≤ y.map Char.toNat := by
  unfold leS
  rw [← ltS_lex]
  show (!decide ((y.map Char.toNat).toArray.toList < (x.map Char.toNat).toArray.toList)) = true ↔ _
  simp only [List.toList_toArray]
  simp [List.not_lt]
theorem leS_total (x y : List Char) : leS x y = true ∨ leS y x = true := by
  rw [leS_iff, leS_iff]
  exact List.le_total _ _
theorem leS_trans {x y z : List Char} (h : leS x y = true) (g : leS y z = true) : leS x z = true := by
  rw [leS_iff] at *
  exact List.le_trans h g
theorem leS_anti {x y : List Char} (h : leS x y = true) (g : leS y x = true) : x = y := by
  rw [leS_iff] at *
  have e := List.le_antisymm h g
  exact List.map_inj_right (fun a b e => Char.toNat_inj.mp e) |>.mp e
theorem insS_perm (x : List Char) : ∀ l, (insS x l).Perm (x :: l)
  | [] => .refl _
  | y :: l => by
    unfold insS
    split
    · exact .refl _
    · exact ((insS_perm x l).cons y).trans (.swap x y l)
theorem sortS_perm : ∀ l, (sortS l).Perm l
  | [] => .refl _
  | x :: l => (insS_perm x _).trans ((sortS_perm l).cons x)
theorem insS_sorted (x : List Char) : ∀ l, l.Pairwise (fun a b => leS a b = true) → (insS x l).Pairwise (fun a b => leS a b = true)
  | [], _ => by simp [insS]
  | y :: l, h => by
    unfold insS
    obtain ⟨h1, h2⟩ := List.pairwise_cons.mp h
    split
    · rename_i hx
      refine List.pairwise_cons.mpr ⟨fun z hz => ?_, h⟩
      rcases List.mem_cons.mp hz with rfl | hz
      · exact hx
      · exact leS_trans hx (h1 z hz)
    · rename_i hx
      refine List.pairwise_cons.mpr ⟨fun z hz => ?_, insS_sorted x l h2⟩
      rcases List.mem_cons.mp ((insS_perm x l).mem_iff.mp hz) with rfl | hz
      · exact (leS_total y z).resolve_right hx
      · exact h1 z hz
theorem sortS_sorted : ∀ l, (sortS l).Pairwise (fun a b => leS a b = true)
  | [] => .nil
  | x :: l => insS_sorted x _ (sortS_sorted l)
theorem sortS_length (l : List (List Char)) : (sortS l).length = l.length := (sortS_perm l).length_eq
theorem risingS_pair : ∀ (p : Str) (l : List Str), risingS p l = true → ∀ x ∈ l, ltCps x.cps.toList p.cps.toList = false
  | p, [], _, x, hx => by cases hx
  | p, y :: r, h, x, hx => by
    have h' : (!ltCps y.cps.toList p.cps.toList && risingS y r) = true := h
    rw [Bool.and_eq_true] at h'
    have h1 : ltCps y.cps.toList p.cps.toList = false := by simpa using h'.1
    rcases List.mem_cons.mp hx with rfl | hx
    · exact h1
    · have h2 := risingS_pair y r h'.2 x hx
      rw [ltCps_eq] at h1 h2 ⊢
      simp only [decide_eq_false_iff_not, List.not_lt] at *
      exact List.le_trans h1 h2
theorem sortedS_pair : ∀ (l : List Str), sortedS l = true → l.Pairwise (fun a b => ltCps b.cps.toList a.cps.toList = false)
  | [], _ => .nil
  | x :: r, h => List.pairwise_cons.mpr ⟨risingS_pair x r h, sortedS_pair r (by
    cases r with
    | nil => rfl
    | cons y r =>
      have h' : (!ltCps y.cps.toList x.cps.toList && risingS y r) = true := h
      rw [Bool.and_eq_true] at h'
      exact h'.2)⟩
theorem sorted_eq {ys : List Str} {ss : List (List Char)} (hp : ys.Perm (ss.map toS)) (hs : sortedS ys = true) : ys = (sortS ss).map toS := by
  have h1 : ys.Perm ((sortS ss).map toS) := hp.trans ((sortS_perm ss).map toS).symm
  refine h1.eq_of_pairwise (le := fun a b => ltCps b.cps.toList a.cps.toList = false) (fun a b _ _ h g => ?_) (sortedS_pair ys hs) ?_
  · rw [ltCps_eq] at h g
    simp only [decide_eq_false_iff_not, List.not_lt] at h g
    have e := List.le_antisymm h g
    cases a; cases b
    exact congrArg Str.mk (Array.toList_inj.mp e)
  · refine List.pairwise_map.mpr ((sortS_sorted ss).imp fun {a b} h => ?_)
    rw [← lt_meets, ltS_lex]
    unfold leS at h
    simpa using h
theorem insI_perm (x : Int) : ∀ l, (insI x l).Perm (x :: l)
  | [] => .refl _
  | y :: l => by
    unfold insI
    split
    · exact .refl _
    · exact ((insI_perm x l).cons y).trans (.swap x y l)
theorem sortI_perm : ∀ l, (sortI l).Perm l
  | [] => .refl _
  | x :: l => (insI_perm x _).trans ((sortI_perm l).cons x)
theorem insI_sorted (x : Int) : ∀ l, l.Pairwise (· ≤ ·) → (insI x l).Pairwise (· ≤ ·)
  | [], _ => by simp [insI]
  | y :: l, h => by
    unfold insI
    obtain ⟨h1, h2⟩ := List.pairwise_cons.mp h
    split
    · rename_i hx
      refine List.pairwise_cons.mpr ⟨fun z hz => ?_, h⟩
      rcases List.mem_cons.mp hz with rfl | hz
      · exact hx
      · exact Int.le_trans hx (h1 z hz)
    · rename_i hx
      refine List.pairwise_cons.mpr ⟨fun z hz => ?_, insI_sorted x l h2⟩
      rcases List.mem_cons.mp ((insI_perm x l).mem_iff.mp hz) with rfl | hz
      · omega
      · exact h1 z hz
theorem sortI_sorted : ∀ l, (sortI l).Pairwise (· ≤ ·)
  | [] => .nil
  | x :: l => insI_sorted x _ (sortI_sorted l)
theorem sortI_length (l : List Int) : (sortI l).length = l.length := (sortI_perm l).length_eq
theorem sortedI_eq {ys ns : List Int} (hp : ys.Perm ns) (hs : ys.Pairwise (· ≤ ·)) : ys = sortI ns :=
  (hp.trans (sortI_perm ns).symm).eq_of_pairwise (fun a b _ _ h g => Int.le_antisymm h g) hs (sortI_sorted ns)

/-! ### kinds of lists -/
section
variable {K : KW} {al : Nat → Addr} {n : Nat} {U : List Addr} {H : Hp}
theorem allStr_rep : ∀ {ds : List D} {vs : List V} {ss : List (List Char)}, Reps K al n U H ds vs → allStr ds = some ss → vs = ss.map (fun s => V.str (toS s)) ∧ ds.length = ss.length ∧ ∀ s ∈ ss, s.length ≤ sizeLine
  | [], vs, ss, r, e => by
    simp only [Reps] at r
    cases e
    exact ⟨r, rfl, fun _ h => nomatch h⟩
  | d :: ds, vs, ss, r, e => by
    simp only [Reps] at r
    obtain ⟨v, r', rfl, r1, r2⟩ := r
    cases d with
    | str s =>
      simp only [allStr] at e
      cases h : allStr ds with
      | none => rw [h] at e; cases e
      | some ss' =>
        rw [h] at e
        cases e
        obtain ⟨a, b, c⟩ := allStr_rep r2 h
        simp only [Rep] at r1
        refine ⟨by rw [List.map_cons, a, r1.1], by simp [b], fun s hs => ?_⟩
        rcases List.mem_cons.mp hs with rfl | hs
        · exact r1.2
        · exact c s hs
    | _ => cases e
theorem allInt_rep : ∀ {ds : List D} {vs : List V} {ss : List Int}, Reps K al n U H ds vs → allInt ds = some ss → vs = ss.map V.int ∧ ds.length = ss.length
  | [], vs, ss, r, e => by
    simp only [Reps] at r
    cases e
    exact ⟨r, rfl⟩
  | d :: ds, vs, ss, r, e => by
    simp only [Reps] at r
    obtain ⟨v, r', rfl, r1, r2⟩ := r
    cases d with
    | int s =>
      simp only [allInt] at e
      cases h : allInt ds with
      | none => rw [h] at e; cases e
      | some ss' =>
        rw [h] at e
        cases e
        obtain ⟨a, b⟩ := allInt_rep r2 h
        simp only [Rep] at r1
        exact ⟨by rw [List.map_cons, a, r1], by simp [b]⟩
    | _ => cases e
theorem allBl_rep : ∀ {ds : List D} {vs : List V} {ss : List Bool}, Reps K al n U H ds vs → allBl ds = some ss → vs = ss.map V.bl ∧ ds.length = ss.length
  | [], vs, ss, r, e => by
    simp only [Reps] at r
    cases e
    exact ⟨r, rfl⟩
  | d :: ds, vs, ss, r, e => by
    simp only [Reps] at r
    obtain ⟨v, r', rfl, r1, r2⟩ := r
    cases d with
    | bl s =>
      simp only [allBl] at e
      cases h : allBl ds with
      | none => rw [h] at e; cases e
      | some ss' =>
        rw [h] at e
        cases e
        obtain ⟨a, b⟩ := allBl_rep r2 h
        simp only [Rep] at r1
        exact ⟨by rw [List.map_cons, a, r1], by simp [b]⟩
    | _ => cases e
theorem strs_rep (ss : List (List Char)) (h : ∀ s ∈ ss, s.length ≤ sizeLine) : Reps K al n U H (ss.map .str) (ss.map fun s => V.str (toS s)) := by
  induction ss with
  | nil => simp [Reps]
  | cons s ss ih =>
    simp only [List.map_cons, Reps]
    refine ⟨_, _, rfl, ?_, ih fun x hx => h x (List.mem_cons_of_mem _ hx)⟩
    simp only [Rep]
    exact ⟨trivial, h s (List.mem_cons_self)⟩
theorem ints_rep (ss : List Int) : Reps K al n U H (ss.map .int) (ss.map V.int) := by
  induction ss with
  | nil => simp [Reps]
  | cons s ss ih =>
    simp only [List.map_cons, Reps]
    exact ⟨_, _, rfl, by simp only [Rep], ih⟩
theorem signs_rep (x : List Char) : Reps K al n U H (x.map fun c => .str [c]) (x.map fun c => V.str ⟨#[c.toNat]⟩) := by
  induction x with
  | nil => simp [Reps]
  | cons s ss ih =>
    simp only [List.map_cons, Reps]
    refine ⟨_, _, rfl, ?_, ih⟩
    simp only [Rep]
    exact ⟨rfl, (by decide : 1 ≤ sizeLine)⟩
end

def rC (K : KW) (g : List D → Store → R (D × Store)) : List V → Hp → VK → Prop := fun xs H Q => ∃ al U S ds d S',
  SR K al U S H ∧ Reps K al S.length U H ds xs ∧ g ds S = .ok (d, S') ∧
  ∀ v H' al', Nxt al S.length H al' S'.length H' → SR K al' U S' H' → Rep K al' S'.length U H' d v → Q v H'
section
variable {X : Cx}
/-- the texts of a text's signs -/
theorem signs_vals {x : Str} {acc : Array Value} (h : ItemsOf (SignAt x) acc x.cps.size) : Vals (x.cps.toList.map fun c => V.str ⟨#[c]⟩) acc.toList := by
  have h1 : acc.size = x.cps.size := h.1
  have : ∀ (l : List Nat) (us : List Value) (off : Nat), us.length = l.length → (∀ (j : Nat) (v : Value), us[j]? = some v → ∃ c u, l[j]? = some c ∧ v = Value.str ⟨#[c]⟩ u) → Vals (l.map fun c => V.str ⟨#[c]⟩) us := by
    intro l
    induction l with
    | nil =>
      intro us _ hl _
      cases us with
      | nil => exact .nil
      | cons _ _ => simp at hl
    | cons c l ih =>
      intro us off hl hv
      cases us with
      | nil => simp at hl
      | cons u us =>
        obtain ⟨c', t, e1, e2⟩ := hv 0 u rfl
        simp at e1
        subst e1
        exact .cons ⟨t, e2⟩ (ih us off (by simpa using hl) fun j v e => hv (j + 1) v (by simpa using e))
  refine this _ _ 0 (by simp [h1]) fun j v e => ?_
  obtain ⟨c, u, e1, e2⟩ := h.2 j v (by simpa using e)
  exact ⟨c, u, by simpa using e1, e2⟩
theorem call_tuple_sgn (hc : X.calm = true) : CallR X (.type "tuple") (fun xs H Q => ∃ z, xs = [.str z] ∧ z.length ≤ sizeLine ∧ NewT H (z.cps.toList.map fun c => V.str ⟨#[c]⟩) Q) := by
  intro pins s σ H xs us Q I r h
  obtain ⟨z, rfl, hz, q⟩ := h
  obtain ⟨u, rfl, t, rfl⟩ := vals1 r
  refine call_tuple_str (I.ok.hd hc) z t (fun h' tk acc hk ha => ?_) hz
  have I1 : Inv X pins σ H { s with heap := h', toks := tk } := I.kept hk
  have e : acc = acc.toList.toArray := by simp
  have := lay_tup (s := { s with heap := h', toks := tk }) I1 (signs_vals ha) (by rw [List.length_map, Array.length_toList]; exact hz) q
  rw [← e] at this
  exact this
/-- tuple(a list) -/
theorem call_tuple_ofP : CallR X (.type "tuple") (fun xs H Q => ∃ p ys, xs = [.ref p] ∧ SqL X.kw H p ys ∧ NewT H ys Q) := by
  intro pins s σ H xs us Q I r ⟨p, ys, ex, hq, q⟩
  subst ex
  obtain ⟨u, eu, rx⟩ := vals1 r
  subst eu
  cases rx
  obtain ⟨its, r', pl, hz⟩ := I.list hq
  have hn := r'.length
  exact call_tuple_list pl.isList (fun h' kp => lay_tup (s := { s with heap := h' }) (I.kept (t' := s.toks) kp) r' hz q) (by simp only [List.size_toArray]; omega)
/-- divmod(i, j) -/
theorem call_divmodP : CallR X (.builtin "divmod") (fun xs H Q => ∃ i j, xs = [.int i, .int j] ∧ CDiv i j ∧ NewT H [.int (i / j), .int (i % j)] Q) := by
  intro pins s σ H xs us Q I r ⟨i, j, ex, ⟨h1, h2⟩, q⟩
  subst ex
  obtain ⟨u, u', eu, ⟨t, et⟩, ⟨t', et'⟩⟩ := vals2 r
  subst eu et et'
  refine divmod_int (by omega) ?_ (.inl (PyProof.noPylong_small (by omega)))
  rw [Int.fdiv_eq_ediv_of_nonneg i (by omega), Int.fmod_eq_emod_of_nonneg i (by omega)]
  exact lay_tup (s := { s with toks := s.toks + 1 + 1 }) (vs := [.int (i / j), .int (i % j)]) (its := [.int (i / j) s.toks, .int (i % j) (s.toks + 1)]) (I.tok _) (.cons ⟨_, rfl⟩ (.cons ⟨_, rfl⟩ .nil)) (show 2 ≤ sizeLine by decide) q
theorem call_list_sgn (hc : X.calm = true) : CallR X (.type "list") (fun xs H Q => ∃ z, xs = [.str z] ∧ z.length ≤ sizeLine ∧ ∀ p, H p = none → Q (.ref p) (upd H p (.lst (z.cps.toList.map fun c => V.str ⟨#[c]⟩)))) := by
  intro pins s σ H xs us Q I r h
  obtain ⟨z, rfl, hz, q⟩ := h
  obtain ⟨u, rfl, t, rfl⟩ := vals1 r
  refine call_list_str (I.ok.hd hc) z t (fun h' tk acc c hk hS ha => ?_) hz
  refine ⟨.ref s.heap.objs.size, _, I.laid (t' := tk) (o := .lst (z.cps.toList.map fun c => V.str ⟨#[c]⟩)) hk (Nat.le_refl _) ?_, rfl, q _ (I.hok.fresh (Nat.le_refl _))⟩
  exact ⟨by rw [List.length_map, Array.length_toList]; exact hz, acc.toList, c, signs_vals ha, by simpa using hS⟩
theorem sgn_map (x : List Char) : ((toS x).cps.toList.map fun c => V.str ⟨#[c]⟩) = x.map fun c => V.str ⟨#[c.toNat]⟩ := by
  show ((x.map Char.toNat).toArray.toList.map fun c => V.str ⟨#[c]⟩) = _
  rw [List.toList_toArray, List.map_map]
  rfl
theorem bt_len (m : Bool) : CallR X (.builtin "len") (rC X.kw (bltD m .len)) := by
  intro pins s σ H xs us Q I rv ⟨al, U, S, ds, d, S', sr, rs, e, q⟩
  match ds, rs, e with
  | [], _, e => cases e
  | _ :: _ :: _, _, e => simp [bltD] at e
  | [a], rs, e =>
    simp only [Reps] at rs
    obtain ⟨v, r, rfl, r1, rfl⟩ := rs
    have other : (∀ z, a ≠ .str z) → wpAny (model X.prog X.w) X.A (call (.builtin "len") us) (EP X pins σ Q) X.xe s := fun hS => by
      have e' : (match items S a with
        | some ds => R.ok (D.int ds.length, S)
        | none => .bad) = R.ok (d, S') := by
        cases a <;> first | exact e | exact absurd rfl (hS _)
      split at e'
      · rename_i ds ei
        cases e'
        obtain ⟨p, vs, rfl, hq, l, rs⟩ := items_rep sr r1 ei
        exact call_len_seq pins s σ H _ us Q I rv ⟨p, vs, rfl, hq, by rw [← rs.length]; exact q _ _ _ .refl sr (by simp only [Rep])⟩
      · cases e'
    cases a with
    | str z =>
      cases e
      simp only [Rep] at r1
      exact call_len_str pins s σ H _ us Q I rv ⟨toS z, by rw [r1.1], by rw [toS_length]; exact r1.2, by rw [toS_length]; exact q _ _ _ .refl sr (by simp only [Rep])⟩
    | non => exact other fun _ h => nomatch h
    | bl _ => exact other fun _ h => nomatch h
    | int _ => exact other fun _ h => nomatch h
    | tup _ => exact other fun _ h => nomatch h
    | lst _ => exact other fun _ h => nomatch h
    | ref _ => exact other fun _ h => nomatch h
    | fn _ => exact other fun _ h => nomatch h
theorem bt_tuple (hc : X.calm = true) (m : Bool) : CallR X (.type "tuple") (rC X.kw (bltD m .tuple)) := by
  intro pins s σ H xs us Q I rv ⟨al, U, S, ds, d, S', sr, rs, e, q⟩
  match ds, rs, e with
  | [], _, e => cases e
  | _ :: _ :: _, _, e => simp [bltD] at e
  | [a], rs, e =>
    simp only [Reps] at rs
    obtain ⟨v, r, rfl, r1, rfl⟩ := rs
    have other : (∀ z, a ≠ .str z) → (∀ z, a ≠ .tup z) → wpAny (model X.prog X.w) X.A (call (.type "tuple") us) (EP X pins σ Q) X.xe s := fun hS hT => by
      have e' : (match items S a with
        | some ds => R.ok (D.tup ds, S)
        | none => .bad) = R.ok (d, S') := by
        cases a <;> first | exact e | exact absurd rfl (hS _)
      split at e'
      · rename_i ds ei
        cases e'
        obtain ⟨p, vs, rfl, hq, l, rs⟩ := items_lst hT sr r1 ei
        exact call_tuple_ofP pins s σ H _ us Q I rv ⟨p, vs, rfl, hq, new_tup sr l rs q⟩
      · cases e'
    cases a with
    | str z =>
      cases e
      simp only [Rep] at r1
      refine call_tuple_sgn hc pins s σ H _ us Q I rv ⟨toS z, by rw [r1.1], by rw [toS_length]; exact r1.2, ?_⟩
      rw [sgn_map]
      exact new_tup sr (by simpa using r1.2) (signs_rep z) q
    | tup es =>
      cases e
      have r1' := r1
      simp only [Rep] at r1
      obtain ⟨p, vs, rfl, t, l, rs⟩ := r1
      exact call_tuple_of pins s σ H _ us Q I rv ⟨p, vs, rfl, .inr ⟨t.sq, q _ _ _ .refl sr r1'⟩⟩
    | non => exact other (fun _ h => nomatch h) (fun _ h => nomatch h)
    | bl _ => exact other (fun _ h => nomatch h) (fun _ h => nomatch h)
    | int _ => exact other (fun _ h => nomatch h) (fun _ h => nomatch h)
    | lst _ => exact other (fun _ h => nomatch h) (fun _ h => nomatch h)
    | ref _ => exact other (fun _ h => nomatch h) (fun _ h => nomatch h)
    | fn _ => exact other (fun _ h => nomatch h) (fun _ h => nomatch h)
theorem bt_list (hc : X.calm = true) (m : Bool) : CallR X (.type "list") (rC X.kw (bltD m .list)) := by
  intro pins s σ H xs us Q I rv ⟨al, U, S, ds, d, S', sr, rs, e, q⟩
  match ds, rs, e with
  | [], _, e => cases e
  | _ :: _ :: _, _, e => simp [bltD] at e
  | [a], rs, e =>
    simp only [Reps] at rs
    obtain ⟨v, r, rfl, r1, rfl⟩ := rs
    have other : (∀ z, a ≠ .str z) → wpAny (model X.prog X.w) X.A (call (.type "list") us) (EP X pins σ Q) X.xe s := fun hS => by
      have e' : (match items S a with
        | some ds => litD m ds S
        | none => .bad) = R.ok (d, S') := by
        cases a <;> first | exact e | exact absurd rfl (hS _)
      split at e'
      · rename_i ds ei
        obtain ⟨p, vs, rfl, hq, l, rs⟩ := items_rep sr r1 ei
        exact call_list_of pins s σ H _ us Q I rv ⟨p, vs, rfl, hq, new_lit sr e' l rs q⟩
      · cases e'
    cases a with
    | str z =>
      simp only [Rep] at r1
      refine call_list_sgn hc pins s σ H _ us Q I rv ⟨toS z, by rw [r1.1], by rw [toS_length]; exact r1.2, ?_⟩
      rw [sgn_map]
      exact new_lit (ds := z.map fun c => .str [c]) sr e (by simpa using r1.2) (signs_rep z) q
    | non => exact other fun _ h => nomatch h
    | bl _ => exact other fun _ h => nomatch h
    | int _ => exact other fun _ h => nomatch h
    | tup _ => exact other fun _ h => nomatch h
    | lst _ => exact other fun _ h => nomatch h
    | ref _ => exact other fun _ h => nomatch h
    | fn _ => exact other fun _ h => nomatch h
theorem int2_eq {xs : List D} {p : Int × Int} (h : int2 xs = some p) : xs = [.int p.1, .int p.2] := by
  unfold int2 at h
  split at h
  · cases h; rfl
  · cases h
theorem int2_rep {K : KW} {al : Nat → Addr} {n : Nat} {U : List Addr} {H : Hp} {i j : Int} {vs : List V} (h : Reps K al n U H [.int i, .int j] vs) : vs = [.int i, .int j] := by
  simp only [Reps, Rep] at h
  obtain ⟨v, r, rfl, rfl, v2, r2, rfl, rfl, rfl⟩ := h
  rfl
theorem bt_divmod (m : Bool) : CallR X (.builtin "divmod") (rC X.kw (bltD m .divmod)) := by
  intro pins s σ H xs us Q I rv ⟨al, U, S, ds, d, S', sr, rs, e, q⟩
  simp only [bltD] at e
  split at e
  · rename_i i j ei
    have eq := int2_eq ei
    subst eq
    split at e
    · rename_i h
      cases e
      refine call_divmodP pins s σ H _ us Q I rv ⟨i, j, int2_rep rs, ⟨h.1, by omega⟩, new_tup (ds := [.int (i / j), .int (i % j)]) sr (show 2 ≤ sizeLine by decide) ?_ q⟩
      simp only [Reps, Rep]
      exact ⟨_, _, rfl, rfl, _, _, rfl, rfl, rfl⟩
    · cases e
  · cases e
theorem keys_str : ∀ (ks : List D) (kvs : List (Key × V)) (ss : List (List Char)), ks.map keyD = kvs.map (fun p => some p.1) → allStr ks = some ss → kvs.map (·.1) = (ss.map toS).map Sum.inr ∧ ∀ s ∈ ss, D.str s ∈ ks := by
  intro ks
  induction ks with
  | nil =>
    intro kvs ss e1 e2
    cases e2
    cases kvs with
    | nil => exact ⟨rfl, fun _ h => nomatch h⟩
    | cons _ _ => simp at e1
  | cons k ks ih =>
    intro kvs ss e1 e2
    cases kvs with
    | nil => simp at e1
    | cons kv kvs =>
      simp only [List.map_cons, List.cons.injEq] at e1
      cases k with
      | str z =>
        simp only [allStr] at e2
        cases h : allStr ks with
        | none => rw [h] at e2; cases e2
        | some ss' =>
          rw [h] at e2
          cases e2
          have e3 : some (Sum.inr (toS z)) = some kv.1 := e1.1
          obtain ⟨a, b⟩ := ih kvs ss' e1.2 h
          refine ⟨by rw [List.map_cons, List.map_cons, List.map_cons, a, ← Option.some.inj e3], fun s hs => ?_⟩
          rcases List.mem_cons.mp hs with rfl | hs
          · exact List.mem_cons_self
          · exact List.mem_cons_of_mem _ (b s hs)
      | _ => cases e2
theorem reps_each {al : Nat → Addr} {n : Nat} {U : List Addr} {pins : List (Addr × Obj)} {σ : L2.St} {H : Hp} {s : Shared} (I : Inv X pins σ H s) : ∀ {ds : List D} {vs : List V} {us : List Value}, ds.all (okD 50) = true → Reps X.kw al n U H ds vs → Vals vs us → PySem.W.EachIs (fun v d => (∃ x, RelV x v ∧ Rep X.kw al n U H d x) ∧ ∃ as, Reads s.heap v (D.py d) as) us ds
  | [], vs, us, _, r, v => by
    simp only [Reps] at r
    subst r
    cases v
    exact .nil
  | d :: ds, vs, us, h, r, v => by
    rw [List.all_cons, Bool.and_eq_true] at h
    simp only [Reps] at r
    obtain ⟨x, r', rfl, r1, r2⟩ := r
    cases v with
    | cons v1 v2 =>
      obtain ⟨as, q⟩ := Dp.reads I d.py x _ (Rep.dp 50 d x h.1 r1) v1
      exact .cons ⟨⟨x, v1, r1⟩, as, q⟩ (reps_each I h.2 r2 v2)
theorem each_reps {K : KW} {al : Nat → Addr} {n : Nat} {U : List Addr} {H : Hp} : ∀ {us : List Value} {ds : List D}, PySem.W.EachIs (fun v d => ∃ x, RelV x v ∧ Rep K al n U H d x) us ds → ∃ vs, Vals vs us ∧ Reps K al n U H ds vs
  | _, [], h => by
    cases h
    exact ⟨[], .nil, by simp only [Reps]⟩
  | _, d :: ds, h => by
    cases h with
    | cons h1 h2 =>
      obtain ⟨x, a, b⟩ := h1
      obtain ⟨vs, c, e⟩ := each_reps h2
      exact ⟨x :: vs, .cons a c, by simp only [Reps]; exact ⟨x, vs, rfl, b, e⟩⟩
theorem bt_sorted (hc : X.calm = true) (hu : X.A.units + 64 < cLine) (m : Bool) : CallR X (.builtin "sorted") (rC X.kw (bltD m .sorted)) := by
  intro pins s σ H xs us Q I rv ⟨al, U, S, ds, d, S', sr, rs, e, q⟩
  match ds, rs, e with
  | [], _, e => cases e
  | _ :: _ :: _, _, e => simp [bltD] at e
  | [a], rs, e =>
    simp only [Reps] at rs
    obtain ⟨v, r, rfl, r1, rfl⟩ := rs
    have hT : ∀ ts, a ≠ .tup ts := fun ts h => by subst h; cases e
    have hstr : ∀ (m' : Bool) (ks : List D) (ss : List (List Char)), (∀ x ∈ ss, x.length ≤ sizeLine) → ss.length < 64 → litD m ((sortS ss).map .str) S = .ok (d, S') → ∀ ys p', ys.Perm (ss.map toS) → sortedS ys = true → H p' = none → Q (.ref p') (upd H p' (.lst (ys.map V.str))) := by
      intro _ _ ss hl h64 e ys p' hp hs hn
      have hl2 : ∀ x ∈ sortS ss, x.length ≤ sizeLine := fun x hx => hl x ((sortS_perm ss).mem_iff.mp hx)
      rw [sorted_eq hp hs, List.map_map]
      exact new_lit sr e (by rw [List.length_map, sortS_length]; exact small64 h64) (strs_rep _ hl2) q p' hn
    have e : (match items S a with
    | some ds => match allStr ds with
      | some ss => if ss.length < 64 then litD m ((sortS ss).map .str) S else .bad
      | none => match allInt ds with
        | some ns => if ns.length < 64 then litD m ((sortI ns).map .int) S else .bad
        | none => if ds.length ≤ 1 then litD m ds S else if ds.all (okD 50) ∧ ds.all tupD ∧ allAlk ds then litD m (ds.mergeSort leD) S else .bad
    | none => match a with
      | .ref n => match S[n]? with
        | some (.dct ks _) => match allStr ks with
          | some ss => if ss.length < 64 then litD m ((sortS ss).map .str) S else .bad
          | none => .bad
        | _ => .bad
      | _ => .bad) = .ok (d, S') := by
      cases a <;> first | exact e | exact absurd rfl (hT _)
    split at e
    · rename_i es ei
      obtain ⟨p, vs, rfl, hq, l, rs⟩ := items_lst hT sr r1 ei
      split at e
      · rename_i ss es'
        split at e
        · rename_i h64
          obtain ⟨ev, el, hl⟩ := allStr_rep rs es'
          exact cr_sortedS pins s σ H _ us Q I rv ⟨p, ss.map toS, rfl, by rw [List.map_map]; rw [ev] at hq; exact hq, by simpa using h64, hstr m [] ss hl h64 e⟩
        · cases e
      · split at e
        · rename_i ss es'
          split at e
          · rename_i h64
            obtain ⟨ev, el⟩ := allInt_rep rs es'
            refine cr_sorted pins s σ H _ us Q I rv ⟨p, ss, rfl, by rw [ev] at hq; exact hq, h64, fun ys p' hp hs hn => ?_⟩
            rw [sortedI_eq hp hs]
            exact new_lit sr e (by rw [List.length_map, sortI_length]; exact small64 h64) (ints_rep _) q p' hn
          · cases e
        · have e1 : allStr es = none := by assumption
          split at e
          · rename_i hl
            match es, hl, e1, rs with
            | [], _, e1, _ => cases e1
            | [y], _, _, rs =>
              have rs' := rs
              simp only [Reps] at rs
              obtain ⟨x, _, rfl, _, rfl⟩ := rs
              exact cr_sorted1 pins s σ H _ us Q I rv ⟨p, x, rfl, hq, new_lit sr e (by show 1 ≤ sizeLine; decide) rs' q⟩
          · split at e
            · rename_i hs
              obtain ⟨its, rvs, pl, _⟩ := I.list hq
              cases rv with
              | cons rx rt =>
                cases rt
                cases rx
                have el := reps_each I hs.1 rs rvs
                have hal : PySem.W.AllAlike (es.map D.py) := by
                  intro d1 h1 d2 h2
                  obtain ⟨a1, m1, rfl⟩ := List.mem_map.mp h1
                  obtain ⟨a2, m2, rfl⟩ := List.mem_map.mp h2
                  exact List.all_eq_true.mp (List.all_eq_true.mp hs.2.2 a1 m1) a2 m2
                have hk : PySem.W.Sortable (es.map D.py) := .inl fun d1 h1 => by
                  obtain ⟨a1, m1, rfl⟩ := List.mem_map.mp h1
                  have := List.all_eq_true.mp hs.2.1 a1 m1
                  cases a1 with
                  | tup ts =>
                    cases ts with
                    | nil => cases this
                    | cons t ts => exact ⟨t.py, D.pys ts, rfl⟩
                  | _ => cases this
                have hL : es.length ≤ sizeLine := l
                refine PySem.W.sorted_data (bs := es) (enc := D.py) (R := fun v d => ∃ x, RelV x v ∧ Rep X.kw al S.length U H d x) pl.isList (el.mono fun _ _ h => h.1) (el.mono fun _ _ h => h.2) hal hk hL (fun b hb => ?_) fun out hlen eo => ?_
                · have := (okD_lay 50 b (List.all_eq_true.mp hs.1 b hb)).2
                  omega
                · have e5 : PySem.W.dataLe false D.py = leD := by
                    funext a b
                    rw [PySem.W.dataLe_eq]
                    rfl
                  rw [e5] at eo
                  obtain ⟨vs2, v1, v2⟩ := each_reps eo
                  obtain ⟨ep, he'⟩ := PyProof.Rows.sortedAll_at s.heap its out.toArray
                  have lz : vs2.length ≤ sizeLine := by
                    rw [← v2.length, List.length_mergeSort]
                    exact hL
                  have lz2 : (es.mergeSort leD).length ≤ sizeLine := by rw [List.length_mergeSort]; exact hL
                  exact ⟨.ref _, upd H (s.heap.objs.size + 1) (.lst vs2), I.laid (t' := s.toks) (fun _ _ => PyProof.Rows.sortedAll_old) (Nat.le_succ _) ⟨lz, out, ep, v1, he'⟩, rfl, new_lit sr e lz2 v2 q _ (I.hok.fresh (Nat.le_succ _))⟩
            · cases e
    · cases a with
      | ref n =>
        simp only at e
        split at e
        · rename_i ks vs eo
          split at e
          · rename_i ss es'
            split at e
            · rename_i h64
              simp only [Rep] at r1
              obtain ⟨hm, rfl⟩ := r1
              obtain ⟨kvs, h1, l, r1, r2, r3, r4⟩ := sr.obj n _ eo
              obtain ⟨hk, hmem⟩ := keys_str ks kvs ss r1 es'
              exact call_sortedD hc pins s σ H _ us Q I rv ⟨_, kvs, ss.map toS, rfl, .inl h1, hk, by simpa using h64, hstr m [] ss (fun x hx => r4 x (hmem x hx)) h64 e⟩
            · cases e
          · cases e
        · cases e
      | _ => cases e
theorem bt_max2 (hc : X.calm = true) (m : Bool) : CallR X (.builtin "max") (rC X.kw (bltD m .max2)) := by
  intro pins s σ H xs us Q I rv ⟨al, U, S, ds, d, S', sr, rs, e, q⟩
  simp only [bltD] at e
  split at e
  · rename_i i j ei
    have eq := int2_eq ei
    subst eq
    cases e
    exact call_max2 hc pins s σ H _ us Q I rv ⟨i, j, int2_rep rs, q _ _ _ .refl sr (by simp only [Rep])⟩
  · cases e
theorem bt_min2 (hc : X.calm = true) (m : Bool) : CallR X (.builtin "min") (rC X.kw (bltD m .min2)) := by
  intro pins s σ H xs us Q I rv ⟨al, U, S, ds, d, S', sr, rs, e, q⟩
  simp only [bltD] at e
  split at e
  · rename_i i j ei
    have eq := int2_eq ei
    subst eq
    cases e
    exact call_min2 hc pins s σ H _ us Q I rv ⟨i, j, int2_rep rs, q _ _ _ .refl sr (by simp only [Rep])⟩
  · cases e
theorem bt_all (hc : X.calm = true) (m : Bool) : CallR X (.builtin "all") (rC X.kw (bltD m .all)) := by
  intro pins s σ H xs us Q I rv ⟨al, U, S, ds, d, S', sr, rs, e, q⟩
  match ds, rs, e with
  | [], _, e => cases e
  | _ :: _ :: _, _, e => simp [bltD] at e
  | [a], rs, e =>
    simp only [Reps] at rs
    obtain ⟨v, r, rfl, r1, rfl⟩ := rs
    have hT : ∀ ts, a ≠ .tup ts := fun ts h => by subst h; cases e
    have e : (match items S a with
    | some ds => match allBl ds with
      | some bs => .ok (.bl (bs.all id), S)
      | none => .bad
    | none => .bad) = R.ok (d, S') := by
      cases a <;> first | exact e | exact absurd rfl (hT _)
    split at e
    · rename_i es ei
      obtain ⟨p, vs, rfl, hq, l, rs⟩ := items_lst hT sr r1 ei
      split at e
      · rename_i bs eb
        obtain ⟨ev, el⟩ := allBl_rep rs eb
        cases e
        exact cr_all hc pins s σ H _ us Q I rv ⟨p, bs, rfl, by rw [ev] at hq; exact hq, q _ _ _ .refl sr (by simp only [Rep])⟩
      · cases e
    · cases e
theorem bt_any (hc : X.calm = true) (m : Bool) : CallR X (.builtin "any") (rC X.kw (bltD m .any)) := by
  intro pins s σ H xs us Q I rv ⟨al, U, S, ds, d, S', sr, rs, e, q⟩
  match ds, rs, e with
  | [], _, e => cases e
  | _ :: _ :: _, _, e => simp [bltD] at e
  | [a], rs, e =>
    simp only [Reps] at rs
    obtain ⟨v, r, rfl, r1, rfl⟩ := rs
    have hT : ∀ ts, a ≠ .tup ts := fun ts h => by subst h; cases e
    have e : (match items S a with
    | some ds => match allBl ds with
      | some bs => .ok (.bl (bs.any id), S)
      | none => .bad
    | none => .bad) = R.ok (d, S') := by
      cases a <;> first | exact e | exact absurd rfl (hT _)
    split at e
    · rename_i es ei
      obtain ⟨p, vs, rfl, hq, l, rs⟩ := items_lst hT sr r1 ei
      split at e
      · rename_i bs eb
        obtain ⟨ev, el⟩ := allBl_rep rs eb
        cases e
        exact cr_any hc pins s σ H _ us Q I rv ⟨p, bs, rfl, by rw [ev] at hq; exact hq, q _ _ _ .refl sr (by simp only [Rep])⟩
      · cases e
    · cases e

/-! ### isinstance -/
def tyN : Ty → String
  | .non => "NoneType" | .bool => "bool" | .int => "int" | .str => "str" | .tuple => "tuple" | .list => "list" | .dict => "dict"
theorem kit_D (K : KW) (T t : Ty) (ht : t ≠ .non) : PySem.W.kitOne K (.type (tyN T)) (.type (tyN t)) = some (subTy T t) := by
  cases t <;> first | exact absurd rfl ht | (cases T <;> exact kit_ty (by decide +kernel))
theorem tyX_rep {K : KW} {al : Nat → Addr} {U : List Addr} {S : Store} {H : Hp} {a : D} {x : V} {T : Ty} (sr : SR K al U S H) (r : Rep K al S.length U H a x) (e : tyD S a = some T) : TyX K H x (.type (tyN T)) := by
  cases a with
  | non => cases e; simp only [Rep] at r; subst r; exact .base .non
  | bl b => cases e; simp only [Rep] at r; subst r; exact .base (.bl b)
  | int b => cases e; simp only [Rep] at r; subst r; exact .base (.int b)
  | fn _ => cases e
  | str b => cases e; simp only [Rep] at r; rw [r.1]; exact .base (.str _)
  | tup ds =>
    cases e
    simp only [Rep] at r
    obtain ⟨p, vs, rfl, t, l, rs⟩ := r
    rcases t with ⟨⟨o, h, _⟩, _⟩ | ⟨o, its, n, h, hc, _⟩
    · exact .fTuple h
    · exact .kTuple h hc
  | lst ds =>
    cases e
    simp only [Rep] at r
    obtain ⟨p, vs, rfl, t, l, rs⟩ := r
    rcases t with ⟨h | ⟨o, h⟩, _⟩ | ⟨o, its, n, h, hc, _⟩
    · exact .base (.lst h)
    · exact .base (.frz h)
    · exact .kList h hc
  | ref m =>
    simp only [Rep] at r
    obtain ⟨hm, rfl⟩ := r
    simp only [tyD] at e
    split at e
    · rename_i es eo
      cases e
      obtain ⟨vs, h1, _⟩ := sr.obj m _ eo
      exact .base (.lst h1)
    · rename_i ks vs eo
      cases e
      obtain ⟨kvs, h1, _⟩ := sr.obj m _ eo
      exact .base (.dK h1)
    · cases e
    · cases e
/-- isinstance(x, T), T a built-in type -/
theorem bt_isTy (t : Ty) (ht : t ≠ .non) (m : Bool) : CallR X (.builtin "isinstance") (fun xs H Q => ∃ x, xs = [x, .ty (tyN t)] ∧ rC X.kw (bltD m (.isTy t)) [x] H Q) := by
  intro pins s σ H xs us Q I rv ⟨x, ex, al, U, S, ds, d, S', sr, rs, e, q⟩
  subst ex
  match ds, rs, e with
  | [], rs, _ => simp [Reps] at rs
  | _ :: _ :: _, rs, _ =>
    simp only [Reps] at rs
    obtain ⟨v, r, e1, _, v2, r2, e2, _⟩ := rs
    subst e2
    cases e1
  | [a], rs, e =>
    simp only [Reps] at rs
    obtain ⟨v, r, ev, r1, rfl⟩ := rs
    cases ev
    simp only [bltD] at e
    split at e
    · rename_i T eT
      cases e
      exact call_isi pins s σ H _ us Q I rv ⟨x, .ty (tyN t), _, _, _, rfl, .ty _, tyX_rep sr r1 eT, kit_D X.kw T t ht, q _ _ _ .refl sr (by simp only [Rep])⟩
    · cases e

/-! ### methods -/
def rM (K : KW) (g : D → List D → Store → R (D × Store)) : V → List V → Hp → VK → Prop := fun x xs H Q => ∃ al U S a ds d S',
  SR K al U S H ∧ Rep K al S.length U H a x ∧ Reps K al S.length U H ds xs ∧ g a ds S = .ok (d, S') ∧
  ∀ v H' al', Nxt al S.length H al' S'.length H' → SR K al' U S' H' → Rep K al' S'.length U H' d v → Q v H'
theorem mt_app : MtR X "list.append" (rM X.kw (mthD .append)) := by
  intro pins s σ H x xs v us Q I rx rs ⟨al, U, S, a, ds, d, S', sr, ra, rds, e, q⟩
  have e : appD a ds S = .ok (d, S') := e
  unfold appD at e
  split at e
  · rename_i n y _
    split at e
    · rename_i es eo
      split at e
      · rename_i hl
        cases e
        simp only [Rep] at ra
        obtain ⟨hm, rfl⟩ := ra
        simp only [Reps] at rds
        obtain ⟨w, r, rfl, rw', rfl⟩ := rds
        obtain ⟨vs, h1, l, rvs⟩ := sr.obj n _ eo
        obtain ⟨n1, s1⟩ := sr.put hm (ho := .lst (vs ++ [w])) (o := .lst (es ++ [y])) fun g => ⟨_, upd_same, by rw [List.length_append]; exact hl, (Reps.nxt g _ _ rvs).append (by simp only [Reps]; exact ⟨_, _, rfl, Rep.nxt g _ _ rw', rfl⟩)⟩
        exact mt_append pins s σ H _ _ v us Q I rx rs ⟨_, vs, w, rfl, rfl, h1, by rw [← rvs.length]; exact hl, q _ _ _ n1 s1 (by simp only [Rep])⟩
      · cases e
    · cases e
  · cases e
theorem join_toS (sp : List Char) : ∀ ss : List (List Char), Txt.join (toS sp) (ss.map toS) = toS (joinS sp ss)
  | ss => by
    have : ∀ ss : List (List Char), Str.join (toS sp) (ss.map toS) = toS (joinS sp ss) := by
      intro ss
      induction ss with
      | nil => rfl
      | cons x r ih =>
        cases r with
        | nil => rfl
        | cons y r =>
          show toS x ++ toS sp ++ Str.join (toS sp) ((y :: r).map toS) = toS (x ++ sp ++ joinS sp (y :: r))
          rw [ih, toS_app, toS_app]
    exact (PySem.StrLaws.glued_eq_join _ _).trans (this ss)
theorem joinS_le (sp : List Char) : ∀ ss : List (List Char), (joinS sp ss).length ≤ (ss.map List.length).sum + ss.length * sp.length
  | [] => by simp [joinS]
  | [x] => by simp [joinS]
  | x :: y :: r => by
    have ih := joinS_le sp (y :: r)
    simp only [joinS, List.length_append, List.map_cons, List.sum_cons, List.length_cons] at ih ⊢
    have : (r.length + 1 + 1) * sp.length = (r.length + 1) * sp.length + sp.length := Nat.succ_mul _ _
    omega
theorem mt_joi : MtR X "str.join" (rM X.kw (mthD .join)) := by
  intro pins s σ H x xs v us Q I rx rs ⟨al, U, S, a, ds, d, S', sr, ra, rds, e, q⟩
  have e : joiD a ds S = .ok (d, S') := e
  unfold joiD at e
  split at e
  · rename_i sp y
    split at e
    · rename_i es eo
      split at e
      · rename_i ss es'
        split at e
        · rename_i hl
          cases e
          simp only [Reps] at rds
          obtain ⟨w, r, rfl, rw', rfl⟩ := rds
          obtain ⟨p, vs, rfl, hq, l, rvs⟩ := items_rep sr rw' eo
          obtain ⟨ev, el, hl2⟩ := allStr_rep rvs es'
          simp only [Rep] at ra
          refine mt_join pins s σ H _ _ v us Q I rx rs ⟨_, p, ss.map toS, ra.1, rfl, by rw [List.map_map]; rw [ev] at hq; exact hq, ?_, ?_⟩
          · rw [List.map_map, List.length_map, toS_length]
            have : (Str.length ∘ toS) = List.length := by funext z; exact toS_length z
            rw [show ((fun x => x.length) ∘ toS) = List.length from this]
            exact hl
          · rw [join_toS]
            refine q _ _ _ .refl sr ?_
            simp only [Rep]
            refine ⟨trivial, Nat.le_trans (joinS_le _ _) ?_⟩
            have : sizeLine = 16777216 := by decide
            omega
        · cases e
      · cases e
    · cases e
  · cases e
end
end Z

set_option Elab.async false
set_option linter.all false
set_option maxRecDepth 100000
set_option maxHeartbeats 4000000
/-! Ev4: stores, targets, what is walked. -/
namespace Z
open PySem L2 PySem.Spec PyProof.Rows

def tSubD (K : KW) : TSet := fun o i v H Q => ∃ al U S a b d S',
  SR K al U S H ∧ Rep K al S.length U H a o ∧ Rep K al S.length U H b i ∧ Rep K al S.length U H d v ∧ subD a b d S = .ok S' ∧
  ∀ H' al', Nxt al S.length H al' S'.length H' → SR K al' U S' H' → Q H'
section
variable {K : KW} {al : Nat → Addr} {n : Nat} {U : List Addr} {H : Hp}
theorem putV_rep {a d : D} {k : Key} {v : V} (ha : keyOk a = true) (ek : keyD a = some k) (rd : Rep K al n U H d v) : ∀ {ks vs : List D} {kvs : List (Key × V)}, ks.all keyOk = true → ks.map keyD = kvs.map (fun p => some p.1) → Reps K al n U H vs (kvs.map (·.2)) →
    Reps K al n U H (putV a d ks vs) ((kvs.map fun kv => if kv.1 = k then (kv.1, v) else kv).map (·.2))
  | [], vs, [], _, _, r => by
    simp only [List.map_nil] at r ⊢
    unfold putV
    exact r
  | [], vs, p :: kvs, _, e, _ => by simp at e
  | c :: ks, vs, [], _, e, _ => by simp at e
  | c :: ks, vs, p :: kvs, hk, e, rs => by
    rw [List.all_cons, Bool.and_eq_true] at hk
    simp only [List.map_cons, List.cons.injEq] at e
    cases vs with
    | nil => simp only [Reps] at rs; cases rs
    | cons w ws =>
      simp only [List.map_cons, Reps] at rs
      obtain ⟨v', r, e2, r1, r2⟩ := rs
      simp only [List.cons.injEq] at e2
      have q : eqD c a = decide (p.1 = k) := by
        rw [keyOk_eq hk.1 ha, ek, e.1]
        simp
      have ih := putV_rep ha ek rd hk.2 e.2 (by rw [e2.2]; exact r2)
      simp only [putV, List.map_cons, Reps, q]
      by_cases hp : p.1 = k
      · rw [if_pos hp, decide_eq_true hp, if_pos rfl]
        exact ⟨_, _, rfl, rd, ih⟩
      · rw [if_neg hp, decide_eq_false hp, if_neg Bool.false_ne_true]
        exact ⟨_, _, rfl, by rw [e2.1]; exact r1, ih⟩
end
/-- how a dict's entries stand -/
def DRep (K : KW) (al : Nat → Addr) (n : Nat) (U : List Addr) (H : Hp) (ks ws : List D) (kvs : List (Key × V)) : Prop :=
  ks.length ≤ sizeLine ∧ ks.map keyD = kvs.map (fun p => some p.1) ∧ Reps K al n U H ws (kvs.map (·.2)) ∧ (kvs.map (·.1)).Nodup ∧ ∀ s, D.str s ∈ ks → s.length ≤ sizeLine
section
variable {K : KW} {al : Nat → Addr} {n : Nat} {U : List Addr} {H : Hp}
theorem DRep.put {ks ws : List D} {kvs : List (Key × V)} {b d : D} {k : Key} {v w : V} (h : DRep K al n U H ks ws kvs) (hk : ks.all keyOk = true) (hb : keyOk b = true) (ek : keyD b = some k) (rb : Rep K al n U H b w) (rd : Rep K al n U H d v) (hl : ks.length < sizeLine) :
    DRep K al n U H (putK ks ws b d).1 (putK ks ws b d).2 (L2.putK kvs k v) ∧ (putK ks ws b d).1.all keyOk = true := by
  obtain ⟨l, r1, r2, r3, r4⟩ := h
  obtain ⟨f1, _⟩ := findK_val hb ek hk r1 r2
  have hany : (kvs.any fun kv => decide (kv.1 = k)) = inD b ks := by rw [valV_any, f1]
  unfold DRep Z.putK L2.putK
  rw [hany]
  cases hi : inD b ks with
  | true =>
    simp only [if_true]
    have e1 : ((fun x : Key × V => x.1) ∘ fun kv : Key × V => if kv.1 = k then (kv.1, v) else kv) = fun x => x.1 := by
      funext p
      simp only [Function.comp]
      split <;> rfl
    refine ⟨⟨l, ?_, putV_rep hb ek rd hk r1 r2, ?_, r4⟩, hk⟩
    · rw [r1, List.map_map]
      apply List.map_congr_left
      intro p _
      simp only [Function.comp]
      split <;> rfl
    · rw [List.map_map, e1]
      exact r3
  | false =>
    simp only [Bool.false_eq_true, if_false]
    refine ⟨⟨by simp only [List.length_append, List.length_singleton]; exact hl, ?_, ?_, ?_, ?_⟩, ?_⟩
    · rw [List.map_append, List.map_append, r1]
      simp [ek]
    · rw [List.map_append]
      refine r2.append ?_
      simp only [List.map_cons, List.map_nil, Reps]
      exact ⟨_, _, rfl, rd, rfl⟩
    · rw [List.map_append]
      refine List.nodup_append.mpr ⟨r3, by simp, ?_⟩
      intro x hx y hy
      simp at hy
      subst hy
      intro exy
      subst exy
      rw [hi] at hany
      obtain ⟨p, hp, rfl⟩ := List.mem_map.mp hx
      have := List.any_eq_false.mp hany p hp
      simp at this
    · intro s hs
      rcases List.mem_append.mp hs with hs | hs
      · exact r4 s hs
      · simp at hs
        subst hs
        simp only [Rep] at rb
        exact rb.2
    · rw [List.all_append, hk]
      simp [hb]
theorem dictD_rep : ∀ {ds : List D} {vs : List V} {ks ws : List D} {kvs : List (Key × V)} {p : List D × List D}, Reps K al n U H ds vs → dictD ds ks ws = some p → ks.all keyOk = true → DRep K al n U H ks ws kvs →
    ∃ (ps : List Addr) (more : List (Key × V)), vs = ps.map V.ref ∧ Paired (fun p kv => SqT K H p [kV kv.1, kv.2]) ps more ∧ DRep K al n U H p.1 p.2 (mergeK kvs more)
  | [], vs, ks, ws, kvs, p, r, e, hk, h => by
    simp only [Reps] at r
    cases e
    exact ⟨[], [], r, .nil, h⟩
  | d :: ds, vs, ks, ws, kvs, p, r, e, hk, h => by
    simp only [Reps] at r
    obtain ⟨v, vr, rfl, r1, r2⟩ := r
    unfold dictD at e
    split at e
    · rename_i h0; cases h0
    · rename_i b d2 ds' _ _ h0
      cases h0
      split at e
      · rename_i hc
        simp only [Rep, Reps] at r1
        obtain ⟨a, us, rfl, t, _, x, _, rfl, rx, y, _, rfl, ry, rfl⟩ := r1
        obtain ⟨k, ek, ex⟩ := keyOk_rep rx hc.1
        subst ex
        obtain ⟨h2, hk2⟩ := h.put hk hc.1 ek rx ry hc.2
        obtain ⟨ps, more, e1, e2, e3⟩ := dictD_rep r2 e hk2 h2
        exact ⟨a :: ps, (k, y) :: more, by rw [e1]; rfl, .cons t.sq e2, e3⟩
      · cases e
    · cases e
end
section
variable {X : Cx}
/-- a tuple's own object, without a dict -/
def TupP (K : KW) (H : Hp) (a : Addr) (xs : List V) : Prop := TupR H a xs ∨
  ∃ (o : Obj) (its : Array Value) (n : Nat), K.lookup a = some o ∧ o.cls = .type "tuple" ∧ o.dict = none ∧ o.data = .seq its n ∧ its.size ≤ sizeLine ∧ Vals xs its.toList
theorem TupAt.plain {K : KW} {al : Nat → Addr} {n : Nat} {U : List Addr} {H : Hp} {a : Addr} {xs : List V} (h : TupAt K al n U H a xs) : TupP K H a xs := h.imp (·.1) id
theorem plain_seq {pins : List (Addr × Obj)} {σ : L2.St} {H : Hp} {s : Shared} {a : Addr} {xs : List V} (I : Inv X pins σ H s) (h : TupP X.kw H a xs) : ∃ its : List Value, Vals xs its ∧ PySem.PlainSeq "tuple" s.heap a its.toArray ∧ xs.length ≤ sizeLine := by
  rcases h with ⟨o, e, hd⟩ | ⟨o, its, n, e, hc, hd, hs, hz, r⟩
  · obtain ⟨h1, z, its, r, o2, h2, hc, n, hs⟩ := I.hok a _ e
    rw [h1] at h2
    cases h2
    exact ⟨its, r, ⟨o, n, h1, hc, hd, hs⟩, z⟩
  · refine ⟨its.toList, r, ⟨o, n, I.kIn a o e, hc, hd, by simpa using hs⟩, ?_⟩
    rw [r.length, Array.length_toList]
    exact hz
theorem pairs_at {pins : List (Addr × Obj)} {σ : L2.St} {H : Hp} {s : Shared} (I : Inv X pins σ H s) : ∀ {ps : List Addr} {kvs : List (Key × V)}, Paired (fun p kv => SqT X.kw H p [kV kv.1, kv.2]) ps kvs →
    ∃ (pvs : List (Value × Value)) (prs : List (Key × Value)), KV kvs prs ∧ pvs.length = ps.length ∧ prs.length = ps.length ∧
      ∀ (j : Nat) (u v : Value), pvs[j]? = some (u, v) → ∃ (b : Addr) (k : Key), ps[j]? = some b ∧ prs[j]? = some (k, v) ∧ PySem.PairAt s.heap b u v ∧ (mixKind X.prog X.w).is k u = true
  | _, _, .nil => ⟨[], [], .nil, rfl, rfl, fun j u v e => by simp at e⟩
  | _, _, .cons (a := p) (b := kv) h t => by
    obtain ⟨pvs, prs, r, l1, l2, hp⟩ := pairs_at I t
    obtain ⟨its, rv, ht, _⟩ := I.tuple h
    obtain ⟨u, y, ei, ru, ry⟩ := vals2 rv
    subst ei
    refine ⟨(u, y) :: pvs, (kv.1, y) :: prs, .cons ⟨rfl, ry⟩ r, by simp [l1], by simp [l2], fun j u' v' e => ?_⟩
    cases j with
    | zero =>
      have e' : (u, y) = (u', v') := Option.some.inj e
      cases e'
      exact ⟨p, kv.1, rfl, rfl, .inl ht, kV_is (P := X.prog) (w := X.w) ru⟩
    | succ j => exact hp j u' v' (by simpa using e)
/-- dict(t) of a tuple of pairs -/
theorem call_dictT (hcalm : X.calm = true) : CallR X (.type "dict") (fun xs H Q => ∃ (a : Addr) (ps : List Addr) (kvs : List (Key × V)), xs = [.ref a] ∧ TupP X.kw H a (ps.map V.ref) ∧ Paired (fun p kv => SqT X.kw H p [kV kv.1, kv.2]) ps kvs ∧
    ∀ p, H p = none → Q (.ref p) (upd H p (.dK (mergeK [] kvs)))) := by
  intro pins s σ H xs us Q I r ⟨a, ps, kvs, ex, hq, hp, q⟩
  subst ex
  obtain ⟨u, eu, rx⟩ := vals1 r
  subst eu
  cases rx
  obtain ⟨its, rv, pl, hz⟩ := plain_seq I hq
  have ei := refs_at rv
  subst ei
  rw [List.length_map] at hz
  obtain ⟨pvs, prs, rel, l1, l2, hpr⟩ := pairs_at I hp
  refine PySem.call_dict_pairs (knd := mixKind X.prog X.w) (kvs := prs) (PySem.PairArg.tuple a (ps.map Value.ref).toArray (fun j => ps.getD j 0) pvs) (I.ok.hd hcalm) ⟨pl, by simp [l1], fun j u v e => ?_⟩ ⟨by rw [l2, l1], fun i key v e => ?_⟩ (by rw [l1]; exact hz) fun h' tk hd' k => ?_
  · obtain ⟨b, kk, e1, e2, e3, e4⟩ := hpr j u v e
    have : ps.getD j 0 = b := by rw [List.getD_eq_getElem?_getD, e1]; rfl
    refine ⟨?_, ?_⟩
    · show _ = some (Value.ref (ps.getD j 0))
      rw [this]; simp [e1]
    · show PySem.PairAt s.heap (ps.getD j 0) u v
      rw [this]; exact e3
  · obtain ⟨b, kk, e1, e2, e3, e4⟩ := hpr i key v e
    exact ⟨kk, e2, e4⟩
  · have hm : (s.heap.objs.size == sysModules) = false := beq_eq_false_iff_ne.mpr (Nat.ne_of_gt I.big)
    have hlen : (mergeK [] kvs).length ≤ sizeLine := by
      refine Nat.le_trans (length_mergeK kvs []) ?_
      rw [List.length_nil, Nat.zero_add, rel.length, l2]
      exact hz
    exact ⟨.ref s.heap.objs.size, upd H s.heap.objs.size (.dK (mergeK [] kvs)), I.laid (t' := tk) (fun b o e => k b o (fun z => nomatch z) e) (Nat.le_refl _) (show ObjOk X.prog X.w _ _ _ (.dK (mergeK [] kvs)) from ⟨hlen, hm, merged [] prs, KV.merge rel .nil, hd'⟩), rfl, q _ (I.hok.fresh (Nat.le_refl _))⟩
theorem dictN_cons {d : D} {ds ks vs : List D} {p : List D × List D} (e : dictN (d :: ds) ks vs = some p) : ∃ k v kk, d = .tup [k, v] ∧ keyN k = some kk ∧ ks.length < sizeLine ∧ dictN ds (putN ks vs k kk v).1 (putN ks vs k kk v).2 = some p := by
  match d, e with
  | .tup [k, v], e =>
    simp only [dictN] at e
    cases hk : keyN k with
    | none => rw [hk] at e; cases e
    | some kk =>
      rw [hk] at e
      simp only at e
      by_cases hl : ks.length < sizeLine
      · rw [if_pos hl] at e
        exact ⟨k, v, kk, rfl, hk, hl, e⟩
      · rw [if_neg hl] at e
        cases e
  | .tup [], e => simp [dictN] at e
  | .tup [_], e => simp [dictN] at e
  | .tup (_ :: _ :: _ :: _), e => simp [dictN] at e
  | .non, e => simp [dictN] at e
  | .bl _, e => simp [dictN] at e
  | .int _, e => simp [dictN] at e
  | .str _, e => simp [dictN] at e
  | .lst _, e => simp [dictN] at e
  | .ref _, e => simp [dictN] at e
theorem dictN_rep {pins : List (Addr × Obj)} {σ : L2.St} {H : Hp} {s : Shared} {al : Nat → Addr} {n : Nat} {U : List Addr} (I : Inv X pins σ H s) {a : Addr} : ∀ {ds : List D} {ws : List V} {ks vs : List D} {bs us : List V} {xs : List (NestedKey × Addr × Value)} {p : List D × List D},
    Reps X.kw al n U H ds ws → NdOk a ks bs us xs → Reps X.kw al n U H ks bs → Reps X.kw al n U H vs us → dictN ds ks vs = some p →
    ∃ (ts : List Addr) (ps : List (NestedKey × Addr × Value)) (bs' us' : List V), ws = ts.map V.ref ∧ ps.length = ts.length ∧ (∀ (j : Nat) (q : NestedKey × Addr × Value), ps[j]? = some q → ∃ t, ts[j]? = some t ∧ s.heap.IsTuple t #[.ref q.2.1, q.2.2]) ∧
      (∀ q ∈ ps, (nestedKind X.prog X.w).is s.heap q.1 q.2.1) ∧ NdOk a p.1 bs' us' (storedAllH xs ps) ∧ Reps X.kw al n U H p.1 bs' ∧ Reps X.kw al n U H p.2 us'
  | [], ws, ks, vs, bs, us, xs, p, r, N, r1, r2, e => by
    simp only [Reps] at r
    subst r
    simp only [dictN, Option.some.injEq] at e
    subst e
    exact ⟨[], [], bs, us, rfl, rfl, fun j q h => by simp at h, fun q h => (nomatch h), N, r1, r2⟩
  | d :: ds, ws, ks, vs, bs, us, xs, p, r, N, r1, r2, e => by
    obtain ⟨k, v, kk, rfl, ek, hl, e⟩ := dictN_cons e
    simp only [Reps, Rep] at r
    obtain ⟨w, r', rfl, ⟨t, vs2, rfl, tt, tl, ⟨kv, _, e2, rk, vv, _, e3, rv, e4⟩⟩, rr⟩ := r
    subst e4
    subst e3
    subst e2
    obtain ⟨its, rits, hT, _⟩ := I.tuple tt.sq
    obtain ⟨u1, u2, ei, h1, h2⟩ := vals2 rits
    subst ei
    obtain ⟨b, ekv, eu, hk⟩ := keyN_is I rk h1 ek
    subst ekv
    subst eu
    obtain ⟨bs1, us1, N1, q1, q2⟩ := putN_ok (vs := vs) N r1 r2 hl ek rk rv h2
    obtain ⟨ts, ps, bs2, us2, g1, g2, g3, g4, g5, g6, g7⟩ := dictN_rep I rr N1 q1 q2 e
    refine ⟨t :: ts, (kk, b, u2) :: ps, bs2, us2, by rw [g1]; rfl, by simp [g2], fun j q h => ?_, fun q h => ?_, g5, g6, g7⟩
    · cases j with
      | zero =>
        have h' : (kk, b, u2) = q := Option.some.inj h
        subst h'
        exact ⟨t, rfl, hT⟩
      | succ j => exact g3 j q (by simpa using h)
    · rcases List.mem_cons.mp h with rfl | h
      · exact hk
      · exact g4 q h
/-- dict(xs) of a list of pairs, the keys tuples -/
theorem bt_dictN (hc : X.calm = true) (hu : X.A.units + 64 < cLine) (m : Bool) : CallR X (.type "dict") (rC X.kw (bltD m .dictN)) := by
  intro pins s σ H xs us Q I rv ⟨al, U, S, ds, d, S', sr, rs, e, q⟩
  have ee : dicND ds S = .ok (d, S') := e
  unfold dicND at ee
  split at ee <;> try (cases ee; done)
  rename_i es
  split at ee
  · rename_i p ep
    cases ee
    simp only [Reps, Rep] at rs
    obtain ⟨v, _, rfl, ⟨a, vs, rfl, t, l, r⟩, rfl⟩ := rs
    obtain ⟨u, eu, rx⟩ := vals1 rv
    subst eu
    cases rx
    have hn := I.hok.fresh (Nat.le_refl s.heap.objs.size)
    have hs : (s.heap.objs.size == sysModules) = false := beq_eq_false_iff_ne.mpr (Ne.symm (Nat.ne_of_lt I.big))
    obtain ⟨ts, ps, bs', us', g1, g2, g3, g4, g5, g6, g7⟩ := dictN_rep (a := s.heap.objs.size) (ks := []) (vs := []) (bs := []) (us := []) (xs := []) I r ⟨hs, Nat.zero_le _, List.nodup_nil, rfl, rfl, .nil⟩ (by simp [Reps]) (by simp [Reps]) ep
    subst g1
    obtain ⟨its, rits, pl, hz⟩ := I.list t.sq
    have ei := refs_at rits
    subst ei
    rw [List.length_map] at hz
    refine PySem.call_dict_pairsH (knd := nestedKind X.prog X.w) (ps := ps) (PySem.PairArg.list a (ts.map Value.ref).toArray (fun j => ts.getD j 0) (ps.map fun q => (Value.ref q.2.1, q.2.2))) (I.ok.hd hc) (by show X.A.units + 1 + 1 + 8 < cLine; omega) ⟨pl, by simp [g2], fun j k v e => ?_⟩ ⟨by simp, fun i key v e => ?_⟩ (fun h' hk x hx => ?_) (by rw [List.length_map, g2]; exact hz) fun h' tk hd' k => ?_
    · rw [List.getElem?_map] at e
      obtain ⟨q', eq, e2⟩ := Option.map_eq_some_iff.mp e
      obtain ⟨t', et, hT⟩ := g3 j q' eq
      have ed : ts.getD j 0 = t' := by rw [List.getD_eq_getElem?_getD, et]; rfl
      cases e2
      refine ⟨?_, ?_⟩
      · show _ = some (Value.ref (ts.getD j 0))
        rw [ed]; simp [et]
      · show PySem.PairAt s.heap (ts.getD j 0) _ _
        rw [ed]; exact .inl hT
    · have e : (ps.map fun q => (Value.ref q.2.1, q.2.2))[i]? = some (key, v) := e
      rw [List.getElem?_map] at e
      obtain ⟨⟨k0, b0, u0⟩, eq, e2⟩ := Option.map_eq_some_iff.mp e
      cases e2
      exact ⟨k0, b0, eq, rfl⟩
    · exact ⟨NestedIs.at (fun b ob vs n hb _ => hk b ob (Nat.ne_of_lt (Heap.lt_size hb)) (fun z => nomatch z) hb) _ _ (g4 x hx).1, (g4 x hx).2⟩
    · obtain ⟨o', es', ep', f1, f2, f3, f4, _, _⟩ := hd'
      obtain ⟨n1, s1, e4⟩ := sr.make (ho := .ext (ndP X.w s.heap.objs.size (storedAllH [] ps))) (o := .dcn p.1 p.2) hn fun g => ⟨_, bs', us', upd_same, g5, Reps.nxt g _ _ g6, Reps.nxt g _ _ g7⟩
      refine ⟨.ref s.heap.objs.size, _, I.laid (t' := tk) (o := .ext (ndP X.w s.heap.objs.size (storedAllH [] ps))) (fun b o e => k b o (fun z => nomatch z) e) (Nat.le_refl _) (nd_ok ⟨o', es', ep', f1, f2, f3, f4⟩), rfl, q _ _ _ n1 s1 ?_⟩
      simp only [Rep]
      exact ⟨by simp, by rw [e4]⟩
  · cases ee
theorem bt_int (m : Bool) : CallR X (.type "int") (rC X.kw (bltD m .int)) := by
  intro pins s σ H xs us Q I rv ⟨al, U, S, ds, d, S', sr, rs, e, q⟩
  match ds, rs, e with
  | [.bl b], rs, e =>
    cases e
    simp only [Reps, Rep] at rs
    obtain ⟨v, _, rfl, rfl, rfl⟩ := rs
    exact call_int1 pins s σ H _ us Q I rv (.inr ⟨b, rfl, q _ _ _ .refl sr (by simp only [Rep])⟩)
  | [], _, e => cases e
  | [.non], _, e => cases e
  | [.int _], _, e => cases e
  | [.str _], _, e => cases e
  | [.tup _], _, e => cases e
  | [.lst _], _, e => cases e
  | [.ref _], _, e => cases e
  | _ :: _ :: _, _, e => simp [bltD] at e
theorem bt_dict (hc : X.calm = true) (m : Bool) : CallR X (.type "dict") (rC X.kw (bltD m .dict)) := by
  intro pins s σ H xs us Q I rv ⟨al, U, S, ds, d, S', sr, rs, e, q⟩
  have ee : dicD ds S = .ok (d, S') := e
  unfold dicD at ee
  split at ee <;> try (cases ee; done)
  rotate_left
  · rename_i es
    split at ee
    · rename_i p ep
      cases ee
      simp only [Reps, Rep] at rs
      obtain ⟨v, _, rfl, ⟨a, vs, rfl, t, l, r⟩, rfl⟩ := rs
      obtain ⟨ps, more, e1, e2, e3⟩ := dictD_rep (ks := []) (ws := []) (kvs := []) r ep rfl ⟨Nat.zero_le _, rfl, by simp [Reps], List.nodup_nil, fun _ h => nomatch h⟩
      refine call_dictP hc pins s σ H _ us Q I rv ⟨a, ps, more, rfl, by rw [← e1]; exact t.sq, e2, fun p' hp' => ?_⟩
      obtain ⟨n1, s1, e4⟩ := sr.make (ho := .dK (mergeK [] more)) (o := .dct p.1 p.2) hp' fun g => ⟨mergeK [] more, upd_same, e3.1, e3.2.1, Reps.nxt g _ _ e3.2.2.1, e3.2.2.2⟩
      refine q _ _ _ n1 s1 ?_
      simp only [Rep]
      exact ⟨by simp, by rw [e4]⟩
    · cases ee
  rename_i es
  split at ee
  · rename_i p ep
    cases ee
    simp only [Reps, Rep] at rs
    obtain ⟨v, _, rfl, ⟨a, vs, rfl, t, l, r⟩, rfl⟩ := rs
    obtain ⟨ps, more, e1, e2, e3⟩ := dictD_rep (ks := []) (ws := []) (kvs := []) r ep rfl ⟨Nat.zero_le _, rfl, by simp [Reps], List.nodup_nil, fun _ h => nomatch h⟩
    refine call_dictT hc pins s σ H _ us Q I rv ⟨a, ps, more, rfl, by rw [← e1]; exact t.plain, e2, fun p' hp' => ?_⟩
    obtain ⟨n1, s1, e4⟩ := sr.make (ho := .dK (mergeK [] more)) (o := .dct p.1 p.2) hp' fun g => ⟨mergeK [] more, upd_same, e3.1, e3.2.1, Reps.nxt g _ _ e3.2.2.1, e3.2.2.2⟩
    refine q _ _ _ n1 s1 ?_
    simp only [Rep]
    exact ⟨by simp, by rw [e4]⟩
  · cases ee
theorem idx_at {A : Type} [BEq A] [LawfulBEq A] (a : A) : ∀ l : List A, a ∈ l → l[l.idxOf a]? = some a
  | [], h => nomatch h
  | x :: l, h => by
    rw [List.idxOf_cons]
    cases hx : x == a with
    | true => simp [eq_of_beq hx]
    | false =>
      have hn : a ≠ x := fun z => by subst z; rw [beq_self_eq_true] at hx; cases hx
      have := idx_at a l ((List.mem_cons.mp h).resolve_left hn)
      simpa using this
theorem idx_lt {A : Type} [BEq A] [LawfulBEq A] (a : A) : ∀ (l : List A) (m : Nat), m < l.idxOf a → l[m]? ≠ some a
  | [], m, h => by simp
  | x :: l, m, h => by
    rw [List.idxOf_cons] at h
    cases hx : x == a with
    | true => rw [hx] at h; simp at h
    | false =>
      rw [hx] at h
      have hn : x ≠ a := fun z => by subst z; rw [beq_self_eq_true] at hx; cases hx
      cases m with
      | zero => simpa using hn
      | succ m =>
        have h' : m + 1 < l.idxOf a + 1 := h
        simpa using idx_lt a l m (by omega)
theorem at_sign (z : List Char) (c : Char) (i : Nat) : PySem.StrLaws.At (toS z) (toS [c]) (toS z).length i ↔ z[i]? = some c := by
  unfold PySem.StrLaws.At Builtin.Str.subAt
  have h1 : (toS [c]).length = 1 := rfl
  have h2 : (toS z).length = z.length := toS_length z
  have h3 : (toS z).cps = (z.map Char.toNat).toArray := rfl
  have h4 : (toS [c]).cps = #[c.toNat] := rfl
  rw [h1, h2, h3, h4]
  constructor
  · rintro ⟨g, e⟩
    have hi : i < z.length := by omega
    have e' := congrArg Array.toList (beq_iff_eq.mp e)
    simp only [Array.toList_extract, List.toList_toArray] at e'
    rw [List.getElem?_eq_getElem hi]
    have e2 : ((List.map Char.toNat z).drop i).take 1 = [c.toNat] := by
      have : ((List.map Char.toNat z).extract i (i + 1)) = ((List.map Char.toNat z).drop i).take 1 := by
        simp [List.extract_eq_drop_take]
      rw [← this]
      exact e'
    rw [← List.map_drop, List.drop_eq_getElem_cons hi, List.map_cons, List.take_succ_cons, List.take_zero, List.cons.injEq] at e2
    rw [Char.toNat_inj.mp e2.1]
  · intro e
    obtain ⟨hi, e1⟩ := List.getElem?_eq_some_iff.mp e
    refine ⟨by omega, beq_iff_eq.mpr ?_⟩
    apply Array.toList_inj.mp
    simp only [Array.toList_extract, List.toList_toArray]
    rw [List.extract_eq_drop_take, ← List.map_drop, List.drop_eq_getElem_cons hi, e1]
    simp
/-- text.index(sign) -/
theorem mt_idx : MtR X "str.index" (rM X.kw (mthD .index)) := by
  intro pins s σ H x xs v us Q I rx rs ⟨al, U, S, a, ds, d, S', sr, ra, rds, e, q⟩
  have e : idxD a ds S = .ok (d, S') := e
  unfold idxD at e
  split at e <;> try (cases e; done)
  rename_i z c _
  split at e
  · rename_i hc
    cases e
    simp only [Reps, Rep] at rds ra
    obtain ⟨w, _, rfl, ⟨rfl, _⟩, rfl⟩ := rds
    have hat : ∀ i, PySem.StrLaws.At (toS z) (toS [c]) (toS z).length i ↔ z[i]? = some c := at_sign z c
    have hi : Builtin.Str.occurrences (toS z) (toS [c]) 0 (toS z).length 1 = (z.idxOf c) :: (Builtin.Str.occurrences (toS z) (toS [c]) 0 (toS z).length 1).tail := by
      rcases PySem.StrLaws.occ_head (toS z) (toS [c]) 1 (Nat.le_refl _) with ⟨_, h2⟩ | ⟨i, r, h1, h2, h3⟩
      · exact absurd ((hat (z.idxOf c)).mpr (idx_at c z hc)) (h2 _)
      · have e1 := (hat i).mp h2
        have e2 : z.idxOf c = i := by
          rcases Nat.lt_trichotomy (z.idxOf c) i with g | g | g
          · exact absurd ((hat (z.idxOf c)).mpr (idx_at c z hc)) (h3 _ g)
          · exact g
          · exfalso
            exact idx_lt c z i g e1
        rw [h1, e2]
        rfl
    exact mt_sindex pins s σ H x _ v us Q I rx rs ⟨toS z, toS [c], z.idxOf c, _, ra.1, rfl, hi, q _ _ _ .refl sr (by simp only [Rep])⟩
  · cases e
/-- a tuple's .index of a text -/
theorem mt_idxT : MtR X "tuple.index" (rM X.kw (mthD .indexT)) := by
  intro pins s σ H x xs v us Q I rx rs ⟨al, U, S, a, ds, d, S', sr, ra, rds, e, q⟩
  have e : idxTD a ds S = .ok (d, S') := e
  unfold idxTD at e
  split at e <;> try (cases e; done)
  rename_i es z _
  split at e
  · rename_i ss es'
    split at e
    · rename_i hc
      cases e
      simp only [Reps, Rep] at rds ra
      obtain ⟨w, _, rfl, ⟨rfl, _⟩, rfl⟩ := rds
      obtain ⟨p, vs, rfl, t, l, r⟩ := ra
      obtain ⟨e1, e2, e3⟩ := allStr_rep r es'
      have inj : ∀ x y : List Char, toS x = toS y → x = y := fun x y h => by simpa [toS_beq] using (by rw [h]; exact beq_self_eq_true _ : (toS x == toS y) = true)
      refine mt_tup_index pins s σ H _ _ v us Q I rx rs ⟨p, ss.map toS, toS z, ss.idxOf z, rfl, rfl, ?_, ?_, fun m hm hz => ?_, q _ _ _ .refl sr (by simp only [Rep])⟩
      · rw [List.map_map]
        rw [e1] at t
        exact t.sq
      · rw [List.getElem?_map, idx_at z ss hc]
        rfl
      · rw [List.getElem?_map, Option.map_eq_some_iff] at hz
        obtain ⟨y, hy, hy2⟩ := hz
        have hy3 := inj _ _ hy2
        rw [hy3] at hy
        exact idx_lt z ss m hm hy
    · cases e
  · cases e
/-- xs.extend(ys) -/
theorem mt_ext : MtR X "list.extend" (rM X.kw (mthD .extend)) := by
  intro pins s σ H x xs v us Q I rx rs ⟨al, U, S, a, ds, d, S', sr, ra, rds, e, q⟩
  have e : extD a ds S = .ok (d, S') := e
  unfold extD at e
  split at e <;> try (cases e; done)
  rename_i n m _
  split at e <;> try (cases e; done)
  rename_i ds eo
  split at e <;> try (cases e; done)
  rename_i es eo2
  split at e
  · rename_i hl
    cases e
    simp only [Reps, Rep] at ra rds
    obtain ⟨hn, rfl⟩ := ra
    obtain ⟨w, _, rfl, ⟨hm, rfl⟩, rfl⟩ := rds
    obtain ⟨vs, h1, l1, r1⟩ := sr.obj n _ eo
    obtain ⟨ws, h2, l2, r2⟩ := sr.obj m _ eo2
    obtain ⟨n1, s1⟩ := sr.put hn (ho := .lst (vs ++ ws)) (o := .lst (ds ++ es)) fun g => ⟨_, upd_same, by rw [List.length_append]; exact hl, (Reps.nxt g _ _ r1).append (Reps.nxt g _ _ r2)⟩
    exact mt_extend pins s σ H _ _ v us Q I rx rs ⟨_, _, vs, ws, rfl, rfl, h1, h2, by rw [← r1.length, ← r2.length]; exact hl, q _ _ _ n1 s1 (by simp only [Rep])⟩
  · cases e
/-- d.get(k, x) -/
theorem mt_get2 (hu : X.A.units + 64 < cLine) : MtR X "dict.get" (rM X.kw (mthD .get2)) := by
  intro pins s σ H x xs v us Q I rx rs ⟨al, U, S, a, ds, d, S', sr, ra, rds, e, q⟩
  have e : get2D a ds S = .ok (d, S') := e
  unfold get2D at e
  split at e <;> try (cases e; done)
  rename_i n b d0 _
  simp only [Reps] at rds
  obtain ⟨y, _, rfl, ry, z, _, rfl, rz, rfl⟩ := rds
  obtain ⟨u, r, rfl, ru, rr⟩ := vals2 rs
  simp only [Rep] at ra
  obtain ⟨hm, rfl⟩ := ra
  obtain rfl : v = Value.ref (al n) := rx
  split at e <;> try (cases e; done)
  · rename_i ks vs eo
    split at e
    · rename_i hf
      cases e
      obtain ⟨kvs, h1, l, r1, r2, r3, r4⟩ := sr.obj n _ eo
      obtain ⟨k, ek, ex⟩ := keyOk_rep ry hf.1
      obtain ⟨f1, f2⟩ := findK_val hf.1 ek hf.2 r1 r2
      have f3 : findK ks vs b = none → valV kvs k = none := fun h => by
        cases hv : valV kvs k with
        | none => rfl
        | some w =>
          exfalso
          rw [hv] at f1
          have go : ∀ (ks vs : List D) (kvs : List (Key × V)), ks.map keyD = kvs.map (fun p => some p.1) → Reps X.kw al S.length U H vs (kvs.map (·.2)) → inD b ks = true → findK ks vs b ≠ none := by
            intro ks
            induction ks with
            | nil => intro vs kvs _ _ hi; simp [inD] at hi
            | cons c ks ih =>
              intro vs kvs e1 e2 hi
              cases kvs with
              | nil => simp at e1
              | cons p kvs =>
                simp only [List.map_cons, List.cons.injEq] at e1
                cases vs with
                | nil => simp only [List.map_cons, Reps] at e2; cases e2
                | cons w vs =>
                  simp only [List.map_cons, Reps] at e2
                  obtain ⟨_, _, e3, _, e4⟩ := e2
                  simp only [List.cons.injEq] at e3
                  unfold findK
                  cases hq : eqD c b with
                  | true => simp
                  | false =>
                    unfold inD at hi
                    rw [List.any_cons, hq, Bool.false_or] at hi
                    simpa using ih vs kvs e1.2 (by rw [e3.2]; exact e4) hi
          exact go ks vs kvs r1 r2 (by rw [f1]; rfl) h
      refine d_get2 (by omega) I (ex ▸ DGet.k h1) ru rr fun w' s3 I3 rw3 => ?_
      cases hq : findK ks vs b with
      | none =>
        rw [f3 hq] at rw3
        rw [hq] at q
        exact ⟨z, H, I3, rw3, q z H al .refl sr rz⟩
      | some w =>
        obtain ⟨v2, g1, g2⟩ := f2 w hq
        rw [g1] at rw3
        rw [hq] at q
        exact ⟨v2, H, I3, rw3, q v2 H al .refl sr g2⟩
    · cases e
  · rename_i ks vs eo
    split at e
    · rename_i k ek
      cases e
      exact n_get2 hu I ru rr ry rz (sr.obj n _ eo) ek fun w rw' => q w H al .refl sr rw'
    · cases e
/-- a method of a thing that is known by its own way -/
theorem pe_bmP {o e : Expr} {es : List Expr} {to : TE} {t : TA} {name : Str} {apos cpos : Pos} {T id : String} {r : V → List V → Hp → VK → Prop} {rT : V → Hp → Prop} (pa : PlainAttrs T) (slot : Slot T name id) (hty : typeOf (.builtin id) = pure (.type "method_descriptor")) (hm : MtR X id r)
    (hT : ∀ {pins : List (Addr × Obj)} {s : Shared} {σ : L2.St} {H : Hp} {x : V} {v : Value}, Inv X pins σ H s → RelV x v → rT x H → s.TypeIs v T ∧ ∀ a, v = .ref a → ∃ ob, s.heap.get? a = some ob ∧ ob.dict = none)
    (ho : PE X o to) (ha : PA X (e :: es) t) (hbase : attributeBase o name X.env (eval o X.env) = eval o X.env)
    (hfew : ((backTo cpos (starEach (e :: es) X.env)).all (fun x => !x.1) && (backToKw cpos (keywordEach [] X.env)).all (fun x => x.1.isSome)
      && decide ((e :: es).length + ([] : List Keyword).length + (if ([] : List Keyword).isEmpty then 0 else 1) < 30)) = true)
    (hline : (apos.endLine == cpos.line) = true) (hs : starEach (e :: es) X.env = (false, eval e X.env) :: starEach es X.env) (hplain : (backTo cpos (starEach es X.env)).any (·.1) = false) :
    PE X (.Call (.Attribute o name apos) (e :: es) [] cpos) (fun σ H Q => to σ H fun x H1 => rT x H1 ∧ t σ H1 fun xs H2 => r x xs H2 Q) := by
  refine ⟨fun pins s σ H Q I h => wpAny_Call_method_late hbase hfew hline rfl (thn (ho.run pins s σ H _ I h) fun v s1 hh => ?_)⟩
  obtain ⟨x, H1, I1, r1, ty, q1⟩ := hh
  obtain ⟨h1, h2⟩ := hT I1 r1 ty
  refine ⟨T, id, pa, slot, hty, h1, h2, ?_⟩
  have hA := ha.run cpos pins s1 σ H1 _ I1 q1
  rw [hs] at hA ⊢
  refine Calls.callWith_builtin (by show (false || (backTo cpos (starEach es X.env)).any (·.1)) = false; rw [hplain]; rfl) (Calls.evalArgs_plain (thn hA fun us s2 hh2 => ?_))
  obtain ⟨vs, H2, I2, r2, q2⟩ := hh2
  exact hm pins s2 σ H2 x vs v us Q I2 r1 r2 q2
end
section
variable {X : Cx}
theorem set_D (hu : X.A.units + 64 < cLine) : PSet X (tSubD X.kw) := by
  intro pins s σ H o i v ov iv u Q I ro ri rv ⟨al, U, S, a, b, d, S', sr, ra, rb, rd, e, q⟩
  unfold subD at e
  cases a with
  | ref n =>
    simp only [Rep] at ra
    obtain ⟨hm, rfl⟩ := ra
    simp only at e
    split at e
    · rename_i es eo
      obtain ⟨vs, h1, l, rvs⟩ := sr.obj n _ eo
      cases b with
      | int j =>
        simp only at e
        split at e
        · rename_i k ek
          cases e
          simp only [Rep] at rb
          obtain ⟨n1, s1⟩ := sr.put hm (ho := .lst (vs.set k v)) (o := .lst (es.set k d)) fun g => ⟨_, upd_same, by simpa using l, Reps.set (Rep.nxt g _ _ rd) k (Reps.nxt g _ _ rvs)⟩
          exact set_list pins s σ H _ i v ov iv u Q I ro ri rv ⟨_, vs, j, k, rfl, rb, h1, by rw [← rvs.length]; exact ek, q _ _ n1 s1⟩
        · cases e
      | _ => cases e
    · rename_i ks vs eo
      obtain ⟨kvs, h1, l, r1, r2, r3, r4⟩ := sr.obj n _ eo
      split at e
      · rename_i hf
        cases e
        obtain ⟨k, ek, ex⟩ := keyOk_rep rb hf.1
        have hlen : kvs.length = ks.length := by
          have := congrArg List.length r1
          simpa using this.symm
        have rl : vs.length = kvs.length := by simpa using r2.length
        obtain ⟨f1, _⟩ := findK_val hf.1 ek hf.2.1 r1 r2
        have hany : (kvs.any fun kv => decide (kv.1 = k)) = inD b ks := by rw [valV_any, f1]
        obtain ⟨n1, s1⟩ := sr.put hm (ho := .dK (L2.putK kvs k v)) (o := .dct (putK ks vs b d).1 (putK ks vs b d).2) fun g => by
          refine ⟨L2.putK kvs k v, upd_same, ?_⟩
          have rd' := Rep.nxt g _ _ rd
          have r2' := Reps.nxt g _ _ r2
          generalize upd H (al n) (HO.dK (L2.putK kvs k v)) = HH at rd' r2' ⊢
          unfold Z.putK L2.putK
          rw [hany]
          cases hi : inD b ks with
          | true =>
            simp only [if_true]
            refine ⟨l, ?_, putV_rep hf.1 ek rd' hf.2.1 r1 r2', ?_, r4⟩
            · rw [r1, List.map_map]
              apply List.map_congr_left
              intro p _
              simp only [Function.comp]
              split <;> rfl
            · rw [List.map_map]
              have : ((fun x : Key × V => x.1) ∘ fun kv : Key × V => if kv.1 = k then (kv.1, v) else kv) = fun x => x.1 := by
                funext p
                simp only [Function.comp]
                split <;> rfl
              rw [this]
              exact r3
          | false =>
            simp only [Bool.false_eq_true, if_false]
            refine ⟨by simp only [List.length_append, List.length_singleton]; exact hf.2.2, ?_, ?_, ?_, ?_⟩
            · rw [List.map_append, List.map_append, r1]
              simp [ek]
            · rw [List.map_append]
              refine r2'.append ?_
              simp only [List.map_cons, List.map_nil, Reps]
              exact ⟨_, _, rfl, rd', rfl⟩
            · rw [List.map_append]
              refine List.nodup_append.mpr ⟨r3, by simp, ?_⟩
              intro x hx y hy
              simp at hy
              subst hy
              intro exy
              subst exy
              rw [hi] at hany
              obtain ⟨p, hp, rfl⟩ := List.mem_map.mp hx
              have := List.any_eq_false.mp hany p hp
              simp at this
            · intro s hs
              rcases List.mem_append.mp hs with hs | hs
              · exact r4 s hs
              · simp at hs
                subst hs
                simp only [Rep] at rb
                exact rb.2
        obtain rfl : ov = Value.ref (al n) := ro
        exact d_setItem (by omega) I (ex ▸ DPut.k h1 (by rw [hlen]; exact hf.2.2)) ri rv fun s4 I4 => ⟨_, I4, q _ _ n1 s1⟩
      · cases e
    · rename_i ks vs eo
      split at e
      · rename_i k ek
        split at e
        · rename_i hl
          cases e
          obtain rfl : ov = Value.ref (al n) := ro
          exact n_setItem hu I sr hm eo ri rb rv rd ek hl fun H' s4 I4 n1 s1 => ⟨_, I4, q _ _ n1 s1⟩
        · cases e
      · cases e
    · cases e
  | _ => cases e
end
end Z

set_option Elab.async false
set_option linter.all false
set_option maxRecDepth 100000
set_option maxHeartbeats 4000000
/-! RevA: x[::-1] of a text, a tuple, a list. -/
namespace Z
open PySem L2 PySem.Spec PyProof.Rows
section
variable {prog : Program} {w : World} {A : Around} {E : Value → Shared → Prop} {s : Shared}
theorem applied_back {sl : Addr} {uk : Tok} {n : Nat} {Q : Int × Int × Nat → Shared → Prop} (hs : s.heap.IsSliceOf sl .none .none (.int (-1) uk)) (h : Q (((n : Int) - 1), -1, n) s) : wpAny (model prog w) A (Builtin.Slice.sliceApplied (.ref sl) (pure (n : Int))) Q E s := by
  obtain ⟨os, a1, a2, a3⟩ := id hs
  unfold Builtin.Slice.sliceApplied Builtin.Slice.sliceFields
  refine wpAny_bind (wpAny_bind (wpAny_field a1 a3 (x := .none) rfl (wpAny_bind (wpAny_field a1 a3 (x := .none) rfl (wpAny_bind (wpAny_field a1 a3 (x := .int (-1) uk) rfl (wpAny_pure ?_)))))))
  refine wpAny_bind (HT.slicePart_ (o := some (-1)) (.int (-1) uk) ?_)
  show wpAny _ _ (if ((-1 : Int) == 0) = true then _ else _) _ _ s
  rw [if_neg (by decide)]
  refine wpAny_bind (HT.slicePart_ .none (wpAny_bind (HT.slicePart_ .none (wpAny_bind (wpAny_pure ?_)))))
  show wpAny _ _ (pure ((n : Int) - 1, (-1 : Int), Builtin.Slice.slicePlaces ((n : Int) - 1) (-1) (-1))) _ _ s
  have e : Builtin.Slice.slicePlaces ((n : Int) - 1) (-1) (-1) = n := by
    unfold Builtin.Slice.slicePlaces
    have h1 : ¬ ((-1 : Int) > 0) := by decide
    simp only [h1, if_false]
    by_cases h2 : (n : Int) - 1 > -1
    · rw [if_pos h2]
      have : ((n : Int) - 1 - -1 - 1) / - -1 = (n : Int) - 1 := by
        rw [show (- -1 : Int) = 1 by decide, Int.ediv_one]
        omega
      rw [this]
      omega
    · rw [if_neg h2]
      omega
  rw [e]
  exact wpAny_pure h
theorem fmap_same {A B : Type} {f g : A → Option B} : ∀ {l : List A}, (∀ x ∈ l, f x = g x) → l.filterMap f = l.filterMap g
  | [], _ => rfl
  | x :: l, h => by
    rw [List.filterMap_cons, List.filterMap_cons, h x List.mem_cons_self, fmap_same fun y hy => h y (List.mem_cons_of_mem _ hy)]
theorem pick_back (xs : Array Value) : ((List.range xs.size).filterMap fun (k : Nat) => xs[((xs.size : Int) - 1 + (k : Int) * -1).toNat]?).toArray = xs.toList.reverse.toArray := by
  have e : ((List.range xs.size).filterMap fun (k : Nat) => xs[((xs.size : Int) - 1 + (k : Int) * -1).toNat]?) = ((List.range xs.size).map fun k => xs.size - 1 - k).filterMap (xs[·]?) := by
    rw [List.filterMap_map]
    refine fmap_same fun k hk => ?_
    have := List.mem_range.mp hk
    show xs[((xs.size : Int) - 1 + (k : Int) * -1).toNat]? = xs[xs.size - 1 - k]?
    have e : ((xs.size : Int) - 1 + (k : Int) * -1).toNat = xs.size - 1 - k := by omega
    rw [e]
  rw [e, PySem.W.krv_range, List.filterMap_reverse, PySem.W.krv_all]
theorem item_back {t sl : Addr} {items : Array Value} {uk : Tok} {Q : Value → Shared → Prop} (ht : IsTup s.heap t items) (hs : s.heap.IsSliceOf sl .none .none (.int (-1) uk))
    (h : Q (.ref s.heap.objs.size) { s with heap := s.heap.push { cls := .type "tuple", data := .seq items.toList.reverse.toArray } }) (hsz : items.size ≤ sizeLine) : wpAny (model prog w) A (getItem (.ref t) (.ref sl)) Q E s := by
  have fit : sizeOk (.seq items.toList.reverse.toArray) := by
    show items.toList.reverse.toArray.size ≤ sizeLine
    rw [List.size_toArray, List.length_reverse, Array.length_toList]
    exact hsz
  obtain ⟨os, hos, hcs, hds⟩ := id hs
  have hTs : s.TypeIs (.ref sl) "slice" := ⟨os, hos, hcs⟩
  unfold getItem
  (try with_reducible refine wpAny_holding ?_); (first | refine wpAny_bind (wpAny_pure ?_) | skip)
  refine wpAny_bind (wpAny_sequenceKey ht.typeIs (by decide) ?_)
  refine wpAny_bind (wpAny_callSpecial?_slot (name := Str.ofString "__getitem__") ht.typeIs PyProof.Rows.slot_tuple_getitem (wpAny_call_entry PyProof.Rows.slot_tuple_getitem ht.typeIs entry_tuple_getitem ?_ (args_tuple_getitem _ _)))
  (show wpAny _ _ (Builtin.Tuple.tupleItemsOf (.ref t) >>= _) _ _ s); refine wpAny_bind (tupleItemsOf_ ht (wpAny_bind (wpAny_typeOf hTs ?_)))
  rw [if_pos (by decide)]
  refine wpAny_bind (applied_back (n := items.size) hs ?_)
  show wpAny _ _ (if (((items.size : Int) - 1) == 0 && (-1 : Int) == 1 && items.size == items.size) = true then _ else _) _ _ s
  rw [if_neg (by simp), pick_back]
  first
    | exact wpAny_bind (m := Builtin.Tuple.tupleExact _) (wpAny_newObj_type (wpAny_pure ⟨_, rfl, wpAny_pure h⟩) fit)
    | exact wpAny_bind (m := Builtin.Tuple.tupleExact _) (wpAny_newObj_type (wpAny_bind (wpAny_pure (wpAny_pure ⟨_, rfl, wpAny_pure h⟩))) fit)
    | exact wpAny_bind (wpAny_bind (m := Builtin.Tuple.tupleExact _) (wpAny_newObj_type (wpAny_pure (wpAny_pure ⟨_, rfl, wpAny_pure h⟩)) fit))
    | exact wpAny_bind (wpAny_bind (m := Builtin.Tuple.tupleExact _) (wpAny_newObj_type (wpAny_pure ⟨_, rfl, wpAny_pure h⟩) fit))
end
theorem Reps.rev {K : KW} {al : Nat → Addr} {n : Nat} {U : List Addr} {H : Hp} : ∀ {ds : List D} {vs : List V}, Reps K al n U H ds vs → Reps K al n U H ds.reverse vs.reverse
  | [], vs, h => by
    simp only [Reps] at h
    subst h
    simp [Reps]
  | d :: ds, vs, h => by
    simp only [Reps] at h
    obtain ⟨v, r, rfl, h1, h2⟩ := h
    rw [List.reverse_cons, List.reverse_cons]
    refine Reps.append (Reps.rev h2) ?_
    simp only [Reps]
    exact ⟨v, [], rfl, h1, rfl⟩
def tRevA (K : PySem.W.Frag) (te : TE) : TE := fun σ H Q => te σ H fun x H1 => (∃ z, x = .str z ∧ z.length ≤ sizeLine ∧ Q (.str (revS z)) H1) ∨
  (∃ a xs, x = .ref a ∧ SqT K H1 a xs ∧ ∀ p ob, H1 p = none → ob.dict = none → Q (.ref p) (upd H1 p (.frz ob (.tup xs.reverse)))) ∨
  (∃ a xs, x = .ref a ∧ SqL K H1 a xs ∧ ∀ p, H1 p = none → Q (.ref p) (upd H1 p (.lst xs.reverse)))
section
variable {X : Cx}
theorem pe_revA {e : Expr} {te : TE} {k : Nat} {p1 p2 p3 pos : Pos} (he : PE X e te) : PE X (.Subscript e (.Slice none none (some (.UnaryOp .USub (.Constant (.int 1) k p1) p2)) p3) pos) (tRevA X.K te) := by
  refine ⟨fun pins s σ H Q I h => ?_⟩
  refine Subscript_ (thn (he.run pins s σ H _ I h) fun v s1 ⟨x, H1, I1, r1, q1⟩ => ?_)
  have hst : PO X (some (.UnaryOp .USub (.Constant (.int 1) k p1) p2)) (tPart (tUn (rU fun i => .int (-i)) (tC (.int 1)))) := po_some (pe_un un_neg pe_int)
  refine wpAny_Slice (thn (po_none.run pins s1 σ H1 (fun o H2 => o = none ∧ H2 = H1) I1 ⟨rfl, rfl⟩) fun vl s2 ⟨l, H2, I2, pl, el, e2⟩ => ?_)
  subst el e2
  refine thn (po_none.run pins s2 σ H2 (fun o H3 => o = none ∧ H3 = H2) I2 ⟨rfl, rfl⟩) fun vu s3 ⟨u, H3, I3, pu, eu, e3⟩ => ?_
  subst eu e3
  refine thn (hst.run pins s3 σ H3 (fun o H4 => o = some (-1) ∧ H4 = H3) I3 ⟨1, rfl, -1, rfl, rfl, rfl⟩) fun vs s4 ⟨o, H4, I4, ps, eo, e4⟩ => ?_
  subst eo e4
  cases pl
  cases pu
  obtain ⟨sp, e5, e6⟩ := IsPart.raw ps
  cases sp with
  | none => cases e6
  | some sp =>
    obtain ⟨w, uk⟩ := sp
    have ew : w = -1 := by
      have : some w = some (-1) := e6
      exact Option.some.inj this
    subst ew
    have e7 : vs = .int (-1) uk := e5
    subst e7
    have I5 : Inv X pins σ H4 { s4 with heap := s4.heap.push { cls := .type "slice", data := .fields #[.none, .none, .int (-1) uk] } } := I4.kept (t' := s4.toks) fun b ob q => Heap.get?_push_of_some _ q
    have hsl : (s4.heap.push { cls := .type "slice", data := .fields #[.none, .none, .int (-1) uk] }).IsSliceOf s4.heap.objs.size .none .none (.int (-1) uk) := Heap.IsSliceOf.new ..
    show wpAny (model X.prog X.w) X.A (subscriptTail e (.Slice none none (some (.UnaryOp .USub (.Constant (.int 1) k p1) p2)) p3) v (.ref s4.heap.objs.size)) (EP X pins σ Q) X.xe { s4 with heap := s4.heap.push { cls := .type "slice", data := .fields #[.none, .none, .int (-1) uk] } }
    rcases q1 with ⟨z, ex, hz, q⟩ | ⟨a, xs, ex, hx, q⟩ | ⟨a, xs, ex, hx, q⟩
    · subst ex
      obtain ⟨tz, rfl⟩ := r1
      refine tail_any (ops := [.str z tz, .ref s4.heap.objs.size]) (typeIs_str _ _ _) F.slot_str_getitem.lookup ?_ (by with_unfolding_all rfl)
      refine wpAny_getItem_str_slice (l := none) (u := none) (st := some (-1, uk)) hsl rfl (post_val_or_str ⟨Nat.le_trans (Txt.sliceBy_le z _ _ (-1, uk) (show (-1 : Int) ≠ 0 by decide)) hz, fun t' c => ?_⟩)
      show EP X pins σ Q (.str (Txt.sliceBy z none none (-1, uk)) t') _
      rw [rev_by z uk]
      exact ⟨.str (revS z), H4, I5.tok _, ⟨t', rfl⟩, q⟩
    · subst ex
      cases r1
      obtain ⟨its, r, ht, hz⟩ := I5.tuple hx
      refine tail_any (ops := [.ref a, .ref s4.heap.objs.size]) ht.typeIs PyProof.Rows.slot_tuple_getitem.lookup ?_ (by with_unfolding_all rfl)
      refine item_back ht hsl ?_ (by rw [List.size_toArray, ← r.length]; exact hz)
      have eg : ((s4.heap.push { cls := .type "slice", data := .fields #[.none, .none, .int (-1) uk] }).push { cls := .type "tuple", data := .seq its.reverse.toArray }).get? (s4.heap.push { cls := .type "slice", data := .fields #[.none, .none, .int (-1) uk] }).objs.size = some { cls := .type "tuple", data := .seq its.reverse.toArray } := Heap.get?_push_size _ rfl
      refine ⟨.ref _, _, I5.laid (t' := s4.toks) (o := .frz { cls := .type "tuple", data := .seq its.reverse.toArray } (.tup xs.reverse)) (fun b ob q => Heap.get?_push_of_some _ q) (Nat.le_refl _) ?_, rfl, q _ _ (I5.hok.fresh (Nat.le_refl _)) rfl⟩
      exact ⟨eg, by rw [List.length_reverse]; exact hz, _, r.reverse, ⟨_, eg, rfl, _, rfl⟩⟩
    · subst ex
      cases r1
      obtain ⟨its, r, ht, hz⟩ := I5.list hx
      have hlen := r.length
      refine tail_any (ops := [.ref a, .ref s4.heap.objs.size]) ht.isList.typeIs (PySem.slot_list_getitem.lookup) ?_ (by with_unfolding_all rfl)
      refine wpAny_getItem_list_slice ht.isList hsl .none .none ps (by decide) ?_ (by rw [List.size_toArray]; omega)
      rw [PySem.W.krv_pick]
      refine ⟨.ref _, _, I5.laid (t' := s4.toks) (o := .lst xs.reverse) (fun b ob q => Heap.get?_push_of_some _ q) (Nat.le_refl _) ?_, rfl, q _ (I5.hok.fresh (Nat.le_refl _))⟩
      exact ⟨by rw [List.length_reverse]; exact hz, _, 0, r.reverse, Heap.get?_push_size _ rfl⟩
/-- a in range(n), a not in range(n) -/
theorem call_rng1 : CallR X (.type "range") (fun vs H Q => ∃ j, vs = [V.int j] ∧ ∀ p, H p = none → Q (.ref p) (upd H p (.rng 0 j))) := by
  intro pins s σ H vs us Q I r h
  obtain ⟨j, rfl, q⟩ := h
  cases r with
  | cons rj rt =>
    cases rt
    obtain ⟨u, rfl⟩ := rj
    refine call_range_1 ⟨.ref s.heap.objs.size, upd H s.heap.objs.size (.rng 0 j), I.laid (t' := s.toks + 2) (fun b o e => Heap.get?_push_of_some _ e) (Nat.le_refl _) ?_, rfl, q _ (I.hok.fresh (Nat.le_refl _))⟩
    exact ⟨_, _, _, Heap.get?_push_size _ rfl⟩
theorem op_rng (neg : Bool) : OpR X (compareOp (if neg then .NotIn else .In)) (fun x y H Q => ∃ i a lo hi, x = V.int i ∧ y = V.ref a ∧ H a = some (.rng lo hi) ∧ Q (.bl (if neg then !decide (lo ≤ i ∧ i < hi) else decide (lo ≤ i ∧ i < hi))) H) := by
  intro pins s σ H x y v u Q I rx ry h
  obtain ⟨i, a, lo, hi, rfl, rfl, ha, q⟩ := h
  obtain ⟨k, rfl⟩ := rx
  obtain rfl : u = Value.ref a := ry
  obtain ⟨t1, t2, t3, ho⟩ := I.hok a _ ha
  cases neg with
  | false =>
    show wpAny _ _ (do return Value.bool (← contains (Value.ref a) (Value.int i k))) _ _ s
    refine wpAny_bind (wpAny_contains_slot (T := "range") ⟨_, ho, rfl⟩ F.slot_range_contains (call_meets F.slot_range_contains ⟨_, ho, rfl⟩ F.entry_range_contains (F.args_range_contains_2 _ _) (q_contains a lo hi i t1 t2 t3 k) ⟨ho, wpAny_truthy_bool (wpAny_pure ⟨.bl _, H, I, rfl, ?_⟩)⟩))
    rw [place1]
    exact q
  | true =>
    show wpAny _ _ (do return Value.bool (!(← contains (Value.ref a) (Value.int i k)))) _ _ s
    refine wpAny_bind (wpAny_contains_slot (T := "range") ⟨_, ho, rfl⟩ F.slot_range_contains (call_meets F.slot_range_contains ⟨_, ho, rfl⟩ F.entry_range_contains (F.args_range_contains_2 _ _) (q_contains a lo hi i t1 t2 t3 k) ⟨ho, wpAny_truthy_bool (wpAny_pure ⟨.bl _, H, I, rfl, ?_⟩)⟩))
    rw [place1]
    exact q
theorem se_rev {a : Expr} {fa : Env → Store → R (D × Store)} {k : Nat} {p1 p2 p3 pos : Pos} (ha : PE X a (tEv X.kw fa)) : PE X (.Subscript a (.Slice none none (some (.UnaryOp .USub (.Constant (.int 1) k p1) p2)) p3) pos) (tEv X.kw fun rho S => (fa rho S).bind fun p => revD p.1 p.2) := by
  refine pe_weak (pe_revA ha) fun σ H Q ⟨al, U, S, rho, d, S', sr, er, e, q⟩ => ?_
  obtain ⟨⟨d1, S1⟩, e1, e⟩ := R.bind_ok e
  refine ⟨al, U, S, rho, d1, S1, sr, er, e1, fun v1 H1 al1 n1 sr1 r1 => ?_⟩
  cases d1 with
  | str x =>
    cases e
    simp only [Rep] at r1
    refine .inl ⟨_, r1.1, by rw [toS_length]; exact r1.2, ?_⟩
    rw [revS_toS]
    exact q _ _ _ n1 sr1 (by simp only [Rep]; exact ⟨trivial, by rw [List.length_reverse]; exact r1.2⟩)
  | tup ds =>
    cases e
    simp only [Rep] at r1
    obtain ⟨p, vs, rfl, t, l, rs⟩ := r1
    exact .inr (.inl ⟨p, vs, rfl, t.sq, new_tup sr1 (by rw [List.length_reverse]; exact l) rs.rev fun v H2 al2 n2 sr2 r2 => q v H2 al2 (sr1.trans n1 n2) sr2 r2⟩)
  | lst ds =>
    cases e
    simp only [Rep] at r1
    obtain ⟨p, vs, rfl, t, l, rs⟩ := r1
    exact .inr (.inr ⟨p, vs, rfl, t.sq, new_lst sr1 (by rw [List.length_reverse]; exact l) rs.rev fun v H2 al2 n2 sr2 r2 => q v H2 al2 (sr1.trans n1 n2) sr2 r2⟩)
  | _ => cases e
theorem inrg_q {al1 : Nat → Addr} {U : List Addr} {S1 S2 S' : Store} {H1 H2 : Hp} {neg : Bool} {d1 d2 d : D} {v1 v2 : V} {al2 : Nat → Addr} {Q : VK} (sr1 : SR X.kw al1 U S1 H1) (n2 : Nxt al1 S1.length H1 al2 S2.length H2) (sr2 : SR X.kw al2 U S2 H2) (r1 : Rep X.kw al1 S1.length U H1 d1 v1) (r2 : Rep X.kw al2 S2.length U H2 d2 v2) (e : inRgD neg d1 d2 S2 = .ok (d, S'))
    (q : ∀ v H' al', Nxt al1 S1.length H1 al' S'.length H' → SR X.kw al' U S' H' → Rep X.kw al' S'.length U H' d v → Q v H') : ∃ j, [v2] = [V.int j] ∧ ∀ p, H2 p = none → ∃ i a lo hi, v1 = V.int i ∧ V.ref p = V.ref a ∧ upd H2 p (.rng 0 j) a = some (.rng lo hi) ∧ Q (.bl (if neg then !decide (lo ≤ i ∧ i < hi) else decide (lo ≤ i ∧ i < hi))) (upd H2 p (.rng 0 j)) := by
  have r1' := Rep.nxt n2 _ _ r1
  cases d1 with
  | int i =>
    cases d2 with
    | int j =>
      cases e
      simp only [Rep] at r1' r2
      subst r1' r2
      refine ⟨_, rfl, fun p hp => ⟨_, p, 0, _, rfl, rfl, upd_same, ?_⟩⟩
      obtain ⟨n3, s3⟩ := sr2.lay hp (.rng 0 j)
      exact q _ _ al2 (sr2.trans n2 n3) s3 (by simp only [Rep])
    | _ => cases e
  | _ => cases e
theorem pe_rng1 {b : Expr} {fb : Env → Store → R (D × Store)} {p p2 : Pos} (hg : Gl X "range") (hm : X.mg "range" = none) (hb : PE X b (tEv X.kw fb)) (hs : starEach [b] X.env = (false, eval b X.env) :: starEach [] X.env) : PE X (.Call (.Name "range" p) [b] [] p2) (tCB (fun vs H Q => ∃ j, vs = [V.int j] ∧ ∀ p, H p = none → Q (.ref p) (upd H p (.rng 0 j))) (tCons (tEv X.kw fb) tNil)) :=
  pe_callTy call_rng1 hg hm (by decide +kernel) (pa_cons hb pa_nil hs) (by decide +kernel) (by decide +kernel) hs rfl
theorem se_inrg {a b : Expr} {fa fb : Env → Store → R (D × Store)} {p p2 pos : Pos} (neg : Bool) (hg : Gl X "range") (hm : X.mg "range" = none) (ha : PE X a (tEv X.kw fa)) (hb : PE X b (tEv X.kw fb)) (hs : starEach [b] X.env = (false, eval b X.env) :: starEach [] X.env) :
    PE X (.Compare a [if neg then .NotIn else .In] [.Call (.Name "range" p) [b] [] p2] pos) (tEv X.kw fun rho S => (fa rho S).bind fun p => (fb rho p.2).bind fun q => inRgD neg p.1 q.1 q.2) := by
  refine pe_weak (pe_cmpR (op_rng neg) ha (pe_rng1 hg hm hb hs) (by cases neg <;> rfl)) fun σ H Q ⟨al, U, S, rho, d, S', sr, er, e, q⟩ => ?_
  obtain ⟨⟨d1, S1⟩, e1, e⟩ := R.bind_ok e
  obtain ⟨⟨d2, S2⟩, e2, e⟩ := R.bind_ok e
  exact ⟨al, U, S, rho, d1, S1, sr, er, e1, fun v1 H1 al1 n1 sr1 r1 => ⟨al1, U, S1, rho, d2, S2, sr1, er.nxt n1, e2, fun v2 H2 al2 n2 sr2 r2 => inrg_q sr1 n2 sr2 r1 r2 e fun v H' al' n' s' r' => q v H' al' (sr1.trans n1 n') s' r'⟩⟩
theorem st_inrg {a b : Expr} {fa fb : Env → Store → R (D × Store)} {p p2 pos : Pos} (neg : Bool) (hg : Gl X "range") (hm : X.mg "range" = none) (ha : PE X a (tEv X.kw fa)) (hb : PE X b (tEv X.kw fb)) (hs : starEach [b] X.env = (false, eval b X.env) :: starEach [] X.env) :
    PT X (.Compare a [if neg then .NotIn else .In] [.Call (.Name "range" p) [b] [] p2] pos) (tEvT X.kw fun rho S => (fa rho S).bind fun p => (fb rho p.2).bind fun q => inRgD neg p.1 q.1 q.2) := by
  refine pt_weak (pt_cmpR (op_rng neg) ha (pe_rng1 hg hm hb hs) (by cases neg <;> rfl)) fun σ H Q ⟨al, U, S, rho, d, S', sr, er, e, q⟩ => ?_
  obtain ⟨⟨d1, S1⟩, e1, e⟩ := R.bind_ok e
  obtain ⟨⟨d2, S2⟩, e2, e⟩ := R.bind_ok e
  refine ⟨al, U, S, rho, d1, S1, sr, er, e1, fun v1 H1 al1 n1 sr1 r1 => ⟨al1, U, S1, rho, d2, S2, sr1, er.nxt n1, e2, fun v2 H2 al2 n2 sr2 r2 => inrg_q (d := .bl d) (Q := fun x H' => ∃ k, x = V.bl k ∧ Q k H') sr1 n2 sr2 r1 r2 e fun v H' al' n' s' r' => ?_⟩⟩
  simp only [Rep] at r'
  exact ⟨d, r', q _ _ (sr1.trans n1 n') s'⟩
end
end Z

set_option Elab.async false
set_option linter.all false
set_option maxRecDepth 100000
set_option maxHeartbeats 4000000
/-! TxtA: x.upper() -/
namespace Z
open PySem L2 PySem.Spec PyProof.Rows
theorem upC_toNat {c : Char} (h : c.toNat < 128) : (upC c).toNat = if 97 ≤ c.toNat ∧ c.toNat ≤ 122 then c.toNat - 32 else c.toNat := by
  unfold upC
  split
  · have hv : (c.toNat - 32).isValidChar := .inl (by omega)
    unfold Char.ofNat
    rw [dif_pos hv]
    rfl
  · rfl
theorem up_toS : ∀ (x : List Char), (x.all fun c => decide (c.toNat < 128)) = true → Txt.upper (toS x) = toS (x.map upC)
  | [], _ => rfl
  | c :: x, h => by
    rw [List.all_cons, Bool.and_eq_true, decide_eq_true_iff] at h
    have e3 : ∀ c : Char, toS [c] = (⟨#[c.toNat]⟩ : Str) := fun _ => rfl
    have e1 : toS (c :: x) = (⟨#[c.toNat]⟩ : Str) ++ toS x := by rw [← e3, toS_app]; rfl
    have e2 : toS ((c :: x).map upC) = (⟨#[(upC c).toNat]⟩ : Str) ++ toS (x.map upC) := by rw [← e3, toS_app]; rfl
    rw [e1, e2, PySem.W.KOpn.upper_app, PySem.W.KOpn.upper_one h.1, up_toS x h.2, upC_toNat h.1]
section
variable {X : Cx}
theorem se_upr {o : Expr} {apos cpos : Pos} {fo : Env → Store → R (D × Store)} (hb : attributeBase o "upper" X.env (eval o X.env) = eval o X.env) (hl : (apos.endLine == cpos.line) = true) (ho : PE X o (tEv X.kw fo)) :
    PE X (.Call (.Attribute o "upper" apos) [] [] cpos) (tEv X.kw fun rho S => (fo rho S).bind fun p => if recvOk .upper p.1 p.2 then mthD .upper p.1 [] p.2 else .bad) := by
  refine pe_weak (pe_upper ho hb hl) fun σ H Q ⟨al, U, S, rho, d, S', sr, er, e, q⟩ => ?_
  obtain ⟨⟨d1, S1⟩, e1, e⟩ := R.bind_ok e
  refine ⟨al, U, S, rho, d1, S1, sr, er, e1, fun v1 H1 al1 n1 sr1 r1 => ?_⟩
  split at e
  · cases d1 with
    | str z =>
      have e : uprD (.str z) [] S1 = .ok (d, S') := e
      unfold uprD at e
      simp only at e
      split at e
      · rename_i hz
        cases e
        simp only [Rep] at r1
        obtain ⟨rfl, hl⟩ := r1
        refine ⟨⟨_, rfl⟩, toS z, rfl, rfl, by rw [toS_length]; exact hz.1, ?_⟩
        rw [up_toS z hz.2]
        exact q _ _ al1 n1 sr1 (by simp only [Rep, List.length_map]; exact ⟨trivial, hl⟩)
      · cases e
    | _ => cases e
  · cases e
end
end Z

set_option Elab.async false
set_option linter.all false
set_option maxRecDepth 100000
set_option maxHeartbeats 4000000
/-! SetM: sets of numbers or texts made of a list or a tuple: their size, their items sorted. -/
namespace Z
open PySem L2 PySem.Spec PyProof.Rows
def kOf (e : Int × Value) : Key := match e.2 with
  | .int k _ => .inl k
  | .str x _ => .inr x
  | _ => .inl 0
def kVal : Key → Tok → Value
  | .inl k, t => .int k t
  | .inr x, t => .str x t
theorem kVal_is (k : Key) (t : Tok) : keyIs k (kVal k t) = true := by
  cases k with
  | inl i => exact keyIs_int i t
  | inr x => exact keyIs_str x t
theorem kVal_scan (k : Key) (t : Tok) : (kVal k t).scannable = true := by cases k <;> rfl
theorem kOf_val (h : Int) (k : Key) (t : Tok) : kOf (h, kVal k t) = k := by cases k <;> rfl
def inK (ks : List Key) (j : Key) : Bool := ks.any fun x => decide (x = j)
theorem inK_iff {ks : List Key} {j : Key} : inK ks j = true ↔ j ∈ ks := by
  unfold inK
  rw [List.any_eq_true]
  exact ⟨fun ⟨x, hx, e⟩ => by rw [← of_decide_eq_true e]; exact hx, fun h => ⟨j, h, decide_eq_true rfl⟩⟩
def Mem1 (w : World) (e : Int × Value) : Prop := ∃ k t, e.2 = kVal k t ∧ e.1 = keyH w k
/-- the set at a: S says which keys, n how many -/
def SetM (w : World) (h : Heap) (a : Addr) (S : Key → Bool) (n : Nat) : Prop :=
  ∃ o es ep t, h.get? a = some o ∧ o.ExactSet ∧ o.data = .set es ep t ∧ (∀ e ∈ es.toList, Mem1 w e) ∧ (es.toList.map kOf).Nodup ∧ (∀ k, S k = true ↔ k ∈ es.toList.map kOf) ∧ es.size < scanBound ∧ t.fits es.size = true ∧ es.size = n ∧ Ris t.place.toList ∧ (w.params.followText "set-order" = true ∨ t.led = true)
section
variable {P : Program} {w : World} {h h' : Heap} {a : Addr} {S : Key → Bool} {n : Nat}
theorem SetM.mv (R : SetM w h a S n) (k : ∀ o, h.get? a = some o → h'.get? a = some o) : SetM w h' a S n := by
  obtain ⟨o, es, ep, t, ho, r⟩ := R
  exact ⟨o, es, ep, t, k o ho, r⟩
theorem SetM.cg {S' : Key → Bool} (R : SetM w h a S n) (e : ∀ k, S' k = S k) : SetM w h a S' n := by
  rw [show S' = S from funext e]
  exact R
theorem mem1_elems {l : List (Int × Value)} (g : ∀ e ∈ l, Mem1 w e) : ElemsOf (mixKind P w) l := fun e he => by
  obtain ⟨k, t, h1, h2⟩ := g e he
  exact ⟨⟨k, by rw [h1]; exact kVal_is k t, h2⟩, by rw [h1]; exact kVal_scan k t⟩
theorem mem1_is {e : Int × Value} (g : Mem1 w e) (k : Key) : (mixKind P w).is k e.2 = true ↔ kOf e = k := by
  obtain ⟨k0, t, h1, _⟩ := g
  obtain ⟨x, v⟩ := e
  have h1 : v = kVal k0 t := h1
  subst h1
  rw [kOf_val]
  refine ⟨fun q => ?_, fun q => q ▸ kVal_is k0 t⟩
  exact ((mixKind P w).inj _ _ _ q (kVal_is k0 t)).symm
theorem mem1_mem {l : List (Int × Value)} (g : ∀ e ∈ l, Mem1 w e) (k : Key) : k ∈ l.map kOf ↔ ∃ e ∈ l, (mixKind P w).is k e.2 = true := by
  rw [List.mem_map]
  exact ⟨fun ⟨e, he, q⟩ => ⟨e, he, (mem1_is (g e he) k).2 q⟩, fun ⟨e, he, q⟩ => ⟨e, he, (mem1_is (g e he) k).1 q⟩⟩
end
section
variable {P : Program} {w : World} {A : Around} {E : Value → Shared → Prop} {s : Shared} {a : Addr} {S : Key → Bool} {n : Nat}
theorem setM_tail {g : Bool → Sem Unit} (hg : ∀ (b : Bool) (s₁ : Shared) (Q' : Unit → Shared → Prop), Q' () s₁ → wpAny (model P w) A (g b) Q' E s₁) {o : Obj} {es : Array (Int × Value)} {ep : Nat} {t : SetTable} (ho : s.heap.get? a = some o) (hex : o.ExactSet) (hd : o.data = .set es ep t)
    {es1 : Array (Int × Value)} {t2 : SetTable} {S' : Key → Bool} (g1 : ∀ e ∈ es1.toList, Mem1 w e) (nd1 : (es1.toList.map kOf).Nodup) (m1 : ∀ k, S' k = true ↔ k ∈ es1.toList.map kOf) (hb1 : es1.size < scanBound) (hf2 : t2.fits es1.size = true) (hr : Ris t2.place.toList) (hl : w.params.followText "set-order" = true ∨ t2.led = true) {wasDummy : Bool} {R : Option Bool → Shared → Prop}
    (hR : ∀ h', Heap.SameBut a s.heap h' → SetM w h' a S' es1.size → R (some true) { s with heap := h' }) :
    wpAny (model P w) A (do
        storeSet a es1 t2
        if (!wasDummy && t2.tooFull) = true then do
            g (relayAll t2 es1 (SetTable.grown es1.size)).2.2
            storeSet a (relayAll t2 es1 (SetTable.grown es1.size)).1 (relayAll t2 es1 (SetTable.grown es1.size)).2.1
            pure (some true)
          else pure (some true)) R E s := by
  refine wpAny_bind (wpAny_storeSet_of ho hd ?_ (fits_of_scanBound hb1))
  have p1 := store_at (es' := es1) (t' := t2) ho hd
  have b1 := Heap.SameBut.update s.heap a (Obj.putSet es1 t2)
  split
  · have pm := relayAll_perm t2 es1 (SetTable.grown es1.size)
    have f3 := relayAll_fits t2 es1 (SetTable.grown es1.size)
    have r3 := relayAll_ris t2 es1 (SetTable.grown es1.size)
    have l3 := relayAll_led t2 es1 (SetTable.grown es1.size)
    generalize relayAll t2 es1 (SetTable.grown es1.size) = Z at pm f3 r3 l3 ⊢
    obtain ⟨es2, t3, gave⟩ := Z
    dsimp only at pm f3 r3 l3 ⊢
    have z2 : es2.size = es1.size := by rw [← Array.length_toList, pm.length_eq, Array.length_toList]
    have b2 : es2.size < scanBound := by rw [z2]; exact hb1
    refine wpAny_bind (hg _ _ _ (wpAny_bind (wpAny_storeSet_of p1 rfl ?_ (fits_of_scanBound b2))))
    have p2 := store_at (es' := es2) (t' := t3) p1 rfl
    exact wpAny_pure (hR _ (b1.trans (Heap.SameBut.update _ a _)) ⟨_, es2, _, t3, p2, hex, rfl, fun e he => g1 e (pm.mem_iff.mp he), (pm.map kOf).nodup_iff.mpr nd1, fun k => (m1 k).trans (pm.map kOf).mem_iff.symm, b2, f3, z2, r3, hl.imp id fun z => by rw [l3]; exact z⟩)
  · exact wpAny_pure (hR _ b1 ⟨_, es1, _, t2, p1, hex, rfl, g1, nd1, m1, hb1, hf2, rfl, hr, hl⟩)
theorem setM_hashed {k : Key} {tk : Tok} {Q : Bool → Shared → Prop} (R : SetM w s.heap a S n) (room : n + 1 < scanBound)
    (hQ : ∀ h', Heap.SameBut a s.heap h' → SetM w h' a (fun j => S j || decide (j = k)) (if S k = true then n else n + 1) → Q (!S k) { s with heap := h' }) :
    wpAny (model P w) A (setAddHashed a (kVal k tk) (keyH w k)) Q E s := by
  obtain ⟨o, es, ep, t, ho, hex, hd, g, nd, hm, hb, hf, hn, hr, hl⟩ := R
  have hkey : (mixKind P w).is k (kVal k tk) = true := kVal_is k tk
  have hsc : (kVal k tk).scannable = true := kVal_scan k tk
  have hel : ElemsOf (mixKind P w) es.toList := mem1_elems g
  unfold setAddHashed setAddHashedIn
  refine wpAny_holding (wpAny_bind (wpAny_setState_of ho hd hf ?_))
  dsimp only
  rw [byScan_of hsc hb hel]
  (simp only [↓reduceIte]); unfold setAddByScan
  refine wpAny_bind (wpAny_bind (wpAny_rule (wpAny_bind (wpAny_setScan_of hkey ho hd hf hel ?_))))
  cases hfi : List.findIdx? (fun e => (mixKind P w).is k e.2) es.toList with
  | some j =>
    dsimp only
    obtain ⟨hj, pj, _⟩ := List.findIdx?_eq_some_iff_getElem.mp hfi
    have yes : S k = true := (hm k).2 ((mem1_mem (P := P) (w := w) g k).2 ⟨es.toList[j], List.getElem_mem hj, pj⟩)
    have q := hQ s.heap (Heap.SameBut.refl a s.heap) ⟨o, es, ep, t, ho, hex, hd, g, nd, fun i => by
      rw [Bool.or_eq_true, decide_eq_true_eq, ← hm i]
      exact ⟨fun z => z.elim id (fun e => e ▸ yes), .inl⟩, hb, hf, by rw [if_pos yes]; exact hn, hr, hl⟩
    rw [yes] at q
    exact wpAny_pure (wpAny_pure q)
  | none =>
    dsimp only
    have out : k ∉ es.toList.map kOf := fun z => by
      obtain ⟨e, he, q⟩ := (mem1_mem (P := P) (w := w) g k).1 z
      have c := List.findIdx?_eq_none_iff.mp hfi e he
      rw [q] at c
      cases c
    have no : S k = false := by
      cases q : S k with
      | false => rfl
      | true => exact absurd ((hm k).1 q) out
    have ways : ∀ (b : Bool) {s₁ : Shared} {Q' : Unit → Shared → Prop}, Q' () s₁ → wpAny (model P w) A (match b with | true => rule "set.scan.the-table-gave-way" | false => pure ()) Q' E s₁ := fun b s₁ Q' q => by cases b <;> first | exact wpAny_pure q | exact wpAny_rule q
    have pm := layNew_perm t es (keyH w k) (kVal k tk)
    have f1 := layNew_fits t es (keyH w k) (kVal k tk)
    have r1 := layNew_ris t es (keyH w k) (kVal k tk) hr
    have l1 := layNew_led t es (keyH w k) (kVal k tk)
    generalize layNew t es (keyH w k) (kVal k tk) = Z at pm f1 r1 l1 ⊢
    obtain ⟨es1, t1, wasDummy, gave⟩ := Z
    dsimp only at pm f1 r1 l1 ⊢
    rw [Array.toList_push] at pm
    have pc : es1.toList.Perm ((keyH w k, kVal k tk) :: es.toList) := pm.trans (List.perm_append_singleton _ _)
    have pk : (es1.toList.map kOf).Perm (k :: es.toList.map kOf) := by
      have := pc.map kOf
      rw [List.map_cons, kOf_val] at this
      exact this
    have g1 : ∀ e ∈ es1.toList, Mem1 w e := fun e he => (List.mem_cons.mp (pc.mem_iff.mp he)).elim (fun z => by rw [z]; exact ⟨k, tk, rfl, rfl⟩) (g e)
    have nd1 : (es1.toList.map kOf).Nodup := pk.nodup_iff.mpr (List.nodup_cons.mpr ⟨out, nd⟩)
    have m1 : ∀ i, (S i || decide (i = k)) = true ↔ i ∈ es1.toList.map kOf := fun i => by
      rw [Bool.or_eq_true, decide_eq_true_eq, hm i, pk.mem_iff, List.mem_cons]
      exact Or.comm
    have z1 : es1.size = n + 1 := by rw [← Array.length_toList, pc.length_eq, List.length_cons, Array.length_toList, hn]
    have b1 : es1.size < scanBound := by rw [z1]; exact room
    have ld : w.params.followText "set-order" = true ∨ t1.led = true := hl.imp id fun z => by rw [l1]; exact z
    have fin : ∀ h', Heap.SameBut a s.heap h' → SetM w h' a (fun j => S j || decide (j = k)) es1.size → Q true { s with heap := h' } := fun h' sb r => by
      have q := hQ h' sb
      rw [no] at q
      rw [z1] at r
      exact q r
    refine wpAny_bind (ways _ ?_)
    split
    · refine wpAny_bind ?_
      rw [hashByValue_scannable 8 hsc]
      refine wpAny_pure ?_
      refine setM_tail ?_ ho hex hd g1 nd1 m1 b1 ?_ ?_ ?_ ?_
      · intro b s₁ Q' q; cases b <;> first | exact wpAny_pure q | exact wpAny_rule q
      · first | (split <;> first | exact f1 | exact SetTable.fits_plain_off f1) | exact f1
      · first | (split <;> exact r1) | exact r1
      · first | (split <;> exact ld) | exact ld
      · intro h' sb r; dsimp only; exact wpAny_pure (fin h' sb r)
    · refine wpAny_bind (wpAny_pure ?_)
      simp only [↓reduceIte]
      refine setM_tail ?_ ho hex hd g1 nd1 m1 b1 f1 r1 ld ?_
      · intro b s₁ Q' q; cases b <;> first | exact wpAny_pure q | exact wpAny_rule q
      · intro h' sb r; dsimp only; exact wpAny_pure (fin h' sb r)
theorem nodup_inl {ns : List Int} (h : (ns.map (Sum.inl : Int → Key)).Nodup) : ns.Nodup := by
  induction ns with
  | nil => exact List.nodup_nil
  | cons x ns ih =>
    rw [List.map_cons, List.nodup_cons] at h
    exact List.nodup_cons.mpr ⟨fun q => h.1 (List.mem_map.mpr ⟨x, q, rfl⟩), ih h.2⟩
theorem setM_new {w : World} {h : Heap} {a : Addr} {ks : List Key} (ho : h.get? a = some { cls := .type "set", dict := none, data := .set #[] 0 (.fresh 0 0 (!w.params.followText "set-order")) }) : SetM w h a (inK (ks.take 0)) 0 := by
  refine ⟨_, #[], 0, _, ho, ⟨rfl, rfl, rfl⟩, rfl, (fun e he => by simp at he), (by simp), (fun k => by simp [inK]), (by decide), (by rfl), rfl, List.Pairwise.nil, ?_⟩
  show _ ∨ (!w.params.followText "set-order") = true
  cases w.params.followText "set-order"
  · exact .inr rfl
  · exact .inl rfl
theorem setM_update {I : Addr} {fp wr : List Addr} {G : Array GenState → Array GenState → Prop} {n : Nat} {Pv : Nat → Value → Prop} {St : Nat → Shared → Prop} {R : Result → Shared → Prop} (W : WalksS P w A.in1 I fp wr G n Pv St) (T : Addr) (hT : T ∉ fp) (ks : List Key) (hn : n = ks.length) (hb : ks.length + 1 < scanBound) (hval : ∀ i v, Pv i v → ∃ k t, ks[i]? = some k ∧ v = kVal k t) :
    ∀ (j i : Nat) (s : Shared), n - i = j → i ≤ n → St i s → (∃ c, c ≤ i ∧ SetM w s.heap T (inK (ks.take i)) c) →
      (∀ s' c, Moved (T :: wr) G s s' → c ≤ n → SetM w s'.heap T (inK ks) c → R (.ok (.ret .none)) s') → codeAny (model P w) A (.builtin "set.update.loop" ⟨[.ref T, .ref I], []⟩) R s := by
  have nw : T ∉ wr := fun h => hT (W.sub _ h)
  have sub : ∀ b ∈ wr, b ∈ T :: wr := fun b hb => List.mem_cons_of_mem _ hb
  intro j
  induction j with
  | zero =>
    intro i s hk' hi hst ⟨c, hc, hS⟩ hR
    have hin : i = n := by omega
    subst hin
    refine codeAny_builtin F.entry_set_update_loop ?_
    (rw [Around.under_plainId F.plain_set_update_loop _]); show wpAny _ A.in1 (pyNext (.ref I) >>= _) _ _ s
    refine wpAny_bind (W.done s _ _ hst fun s' hm => ?_)
    show wpAny _ A.in1 (ret Value.none) _ _ s'
    rw [show ks.take i = ks from List.take_of_length_le (by omega)] at hS
    exact wpAny_pure (hR s' c (hm.mono sub) hc (hS.mv fun o e => hm.heap T o nw e))
  | succ j ih =>
    intro i s hk' hi hst ⟨c, hc, hS⟩ hR
    have hlt : i < n := by omega
    refine codeAny_builtin F.entry_set_update_loop ?_
    (rw [Around.under_plainId F.plain_set_update_loop _]); show wpAny _ A.in1 (pyNext (.ref I) >>= _) _ _ s
    refine wpAny_bind (W.item i s _ _ hlt hst fun v s' hP hst' hm => ?_)
    obtain ⟨z, t, hz, rfl⟩ := hval i v hP
    have hS' : SetM w s'.heap T (inK (ks.take i)) c := hS.mv fun o e => hm.heap T o nw e
    show wpAny _ A.in1 (holding [kVal z t] (setAdd T (kVal z t)) >>= _) _ _ s'
    refine wpAny_bind (wpAny_holding ?_)
    unfold setAdd
    refine wpAny_holding (wpAny_bind ((mixKind P w).pyHash (k := z) (kVal_is z t) ?_))
    refine setM_hashed (s := { s' with toks := s'.toks + 1 }) hS' (by omega) fun h' sb hS2 => ?_
    have hS3 : SetM w h' T (inK (ks.take (i + 1))) (if inK (ks.take i) z = true then c else c + 1) := hS2.cg fun j => by
      rw [List.take_add_one, hz]
      simp [inK, List.any_append, eq_comm]
    have hc3 : (if inK (ks.take i) z = true then c else c + 1) ≤ i + 1 := by split <;> omega
    refine wpAny_pure ⟨plainId_quiet F.plain_set_update_loop _, ih (i + 1) _ (by omega) hlt (W.frame _ s' _ _ hst' (Nat.le_succ _) fun b hb o e => ?_) ⟨_, hc3, hS3⟩ fun s'' c2 hm'' hc'' hS'' => ?_⟩
    · rw [sb.2 b (fun h : b = T => hT (by rw [← h]; exact hb))]
      exact e
    · refine hR s'' c2 (Moved.trans W.gtrans ((hm.mono sub).then_heap (Nat.le_succ _) fun b o hb e => ?_) hm'') hc'' hS''
      rw [sb.2 b (fun h : b = T => hb (by rw [h]; exact List.mem_cons_self))]
      exact e
/-- the keys of values -/
inductive Keys : List Value → List Key → Prop
  | nil : Keys [] []
  | cons (k : Key) (t : Tok) {vs : List Value} {ks : List Key} (r : Keys vs ks) : Keys (kVal k t :: vs) (k :: ks)
theorem Keys.len : ∀ {vs : List Value} {ks : List Key}, Keys vs ks → vs.length = ks.length
  | _, _, .nil => rfl
  | _, _, .cons k t r => by rw [List.length_cons, List.length_cons, r.len]
theorem Keys.get : ∀ {vs : List Value} {ks : List Key}, Keys vs ks → ∀ (i : Nat) (v : Value), vs[i]? = some v → ∃ k t, ks[i]? = some k ∧ v = kVal k t
  | _, _, .nil, i, v, h => by simp at h
  | _, _, .cons k t r, 0, v, h => by
    simp at h
    exact ⟨k, t, rfl, h.symm⟩
  | _, _, .cons k t r, i + 1, v, h => by
    obtain ⟨k', t', a, b⟩ := r.get i v (by simpa using h)
    exact ⟨k', t', by simpa using a, b⟩
abbrev newSet (w : World) (h : Heap) : Heap := h.push { cls := .type "set", dict := none, data := .set #[] 0 (.fresh 0 0 (!w.params.followText "set-order")) }
set_option maxHeartbeats 8000000 in
theorem call_set_lst {l : Addr} {items : Array Value} (ks : List Key) {Q : Value → Shared → Prop} (hh : A.handled = none) (hl : s.heap.IsList l items) (hit : Keys items.toList ks) (hb : ks.length + 1 < scanBound)
    (h : ∀ (h' : Heap) (tk c : Nat), SetM w h' s.heap.objs.size (inK ks) c → c ≤ ks.length → (∀ b o, s.heap.get? b = some o → h'.get? b = some o) → Q (.ref s.heap.objs.size) { s with heap := h', toks := tk }) : wpAny (model P w) A (call (.type "set") [.ref l]) Q E s := by
  have hsz : items.size = ks.length := by
    have q := hit.len
    rwa [Array.length_toList] at q
  obtain ⟨c, tl, hmro⟩ := F.called_set.mro
  (have hmade := F.called_set.made); have hsub := F.called_set.sub
  refine wpAny_call (codeAny_of_tree ?_)
  (show wpAny _ _ (callAny (.type "set") _) _ _ _); refine wpAny_pure ⟨Code.quiet_builtin _ (by decide +kernel), codeAny_builtin F.entry_type_call ?_⟩
  rw [Around.under_plain (weight_type_call_type "set" [.ref l] []) rfl]
  (have h1 := F.called_set.notType); (have h2 := F.called_set.canCreate); have hct := F.typeCall_set_1 (.ref l)
  repeat (any_goals (first | assumption | wp_step))
  refine codeAny_mono (code_set_led1 (.ref l) (E := E) (Q₁ := fun obj s₁ => obj = .ref s.heap.objs.size ∧ s₁ = { s with heap := newSet w s.heap }) ⟨rfl, rfl⟩) fun r s₁ hr => ?_
  cases r with
  | error e => exact hr
  | ok fl =>
    cases fl with
    | ret obj =>
      obtain ⟨rfl, rfl⟩ := hr
      have hS : (newSet w s.heap).get? s.heap.objs.size = some { cls := .type "set", dict := none, data := .set #[] 0 (.fresh 0 0 (!w.params.followText "set-order")) } := Heap.get?_push_size _ rfl
      have hT : Shared.TypeIs { s with heap := newSet w s.heap } (.ref s.heap.objs.size) "set" := ⟨_, hS, rfl⟩
      (have hli := F.called_set.init.lookup); have hbi := F.called_set.init.bind (.ref s.heap.objs.size)
      repeat (any_goals (first | assumption | wp_step))
      refine codeAny_mono (codeAny_call_builtin (R := wants (fun r s₂ => r = .none ∧ ∃ h' tk c, s₂ = { s with heap := h', toks := tk } ∧ SetM w h' s.heap.objs.size (inK ks) c ∧ c ≤ ks.length ∧ (∀ b o, s.heap.get? b = some o → h'.get? b = some o)) E) F.called_set.init.plain F.entry_set_init (check_set_init_1 hT ?_)) fun r₂ s₂ hr₂ => ?_
      · obtain ⟨ol, hol, hcl, nl, hdl⟩ := hl
        obtain ⟨ocls, odict, odata, oslots⟩ := ol
        simp only at hcl hdl
        subst hcl
        subst hdl
        have hol' : (newSet w s.heap).get? l = some { cls := .type "list", dict := odict, data := .seq items nl, slots := oslots } := Heap.get?_push_of_some _ hol
        (have hsls := F.sub_list_set); (have hslf := F.sub_list_frozenset)
        have hne : (Value.type "list" == Value.type "dict") = false := by decide
        have hl1 : (newSet w s.heap).IsList l items := ⟨_, hol', rfl, nl, rfl⟩
        unfold Builtin.«set.__init__» noKeywords Builtin.Frozenset.updateFrom
        generalize hPI : pyIter = PI
        wp_walk
        subst hPI
        refine wpAny_pyIter_list hl1 (wpAny_bind (wpAny_runValue ?_))
        have lS : l < s.heap.objs.size := Heap.lt_size hol
        have hh3 : A.in1.in1.in1.handled = none := by simp [hh]
        have z1 : (newSet w s.heap).objs.size = s.heap.objs.size + 1 := Heap.size_push ..
        have neI : l ≠ (newSet w s.heap).objs.size := by rw [z1]; exact Nat.ne_of_lt (Nat.lt_succ_of_lt (by assumption))
        have hSf : s.heap.objs.size ∉ [(newSet w s.heap).objs.size, l] := by
          rw [z1]
          simp only [List.mem_cons, List.mem_singleton, List.not_mem_nil, or_false, not_or]
          exact ⟨Nat.ne_of_lt (Nat.lt_succ_self _), Nat.ne_of_gt lS⟩
        have hval : ∀ (i : Nat) (v : Value), items[i]? = some v → ∃ k t, ks[i]? = some k ∧ v = kVal k t := fun i v hv => hit.get i v (by rw [Array.getElem?_toList]; exact hv)
        refine setM_update ((Walks.list hh3 _ l neI items).toS) s.heap.objs.size hSf ks hsz hb hval (items.size - 0) 0 _ (by omega) (Nat.zero_le _) ⟨⟨_, Heap.get?_push_size _ rfl, rfl, rfl⟩, (hl1.push _)⟩ ?_ ?_
        · exact ⟨0, Nat.le_refl 0, setM_new (ks := ks) (Heap.get?_push_of_some _ hS)⟩
        · intro s' c' hm hc' hS'
          obtain ⟨h', g2, d', tk', os'⟩ := s'
          (have eg : g2 = s.gens := hm.gens); (have ed : d' = s.drawn := hm.drawn); have eo : os' = s.os := hm.os
          subst eg
          subst ed
          subst eo
          show wpAny _ _ _ _ _ _
          refine wpAny_pure ?_
          show wpAny _ _ (ret Value.none) _ _ _
          rw [hsz] at hc'
          refine wpAny_pure ⟨rfl, h', tk', c', rfl, hS', hc', fun b o e => ?_⟩
          have b0 : b < s.heap.objs.size := Heap.lt_size e
          have b2 : b ≠ (newSet w s.heap).objs.size := by rw [z1]; exact Nat.ne_of_lt (Nat.lt_succ_of_lt (by assumption))
          exact hm.heap b o (by simp only [List.mem_cons, List.mem_singleton, List.not_mem_nil, or_false, not_or]; exact ⟨Nat.ne_of_lt b0, b2⟩) (Heap.get?_push_of_some _ (Heap.get?_push_of_some _ e))
      · cases r₂ with
        | error e => exact hr₂
        | ok fl₂ =>
          cases fl₂ with
          | ret r =>
            obtain ⟨rfl, h', tk, c', rfl, hS', hc', hk'⟩ := hr₂
            repeat (any_goals (first | assumption | wp_step))
            exact h _ _ _ hS' hc' hk'
          | _ => exact hr₂.elim
    | _ => exact hr.elim
set_option maxHeartbeats 8000000 in
theorem call_set_tup {l : Addr} {items : Array Value} (ks : List Key) {Q : Value → Shared → Prop} (hh : A.handled = none) (hl : s.heap.IsTuple l items) (hit : Keys items.toList ks) (hb : ks.length + 1 < scanBound)
    (h : ∀ (h' : Heap) (tk c : Nat), SetM w h' s.heap.objs.size (inK ks) c → c ≤ ks.length → (∀ b o, s.heap.get? b = some o → h'.get? b = some o) → Q (.ref s.heap.objs.size) { s with heap := h', toks := tk }) : wpAny (model P w) A (call (.type "set") [.ref l]) Q E s := by
  have hsz : items.size = ks.length := by
    have q := hit.len
    rwa [Array.length_toList] at q
  obtain ⟨c, tl, hmro⟩ := F.called_set.mro
  (have hmade := F.called_set.made); have hsub := F.called_set.sub
  refine wpAny_call (codeAny_of_tree ?_)
  (show wpAny _ _ (callAny (.type "set") _) _ _ _); refine wpAny_pure ⟨Code.quiet_builtin _ (by decide +kernel), codeAny_builtin F.entry_type_call ?_⟩
  rw [Around.under_plain (weight_type_call_type "set" [.ref l] []) rfl]
  (have h1 := F.called_set.notType); (have h2 := F.called_set.canCreate); have hct := F.typeCall_set_1 (.ref l)
  repeat (any_goals (first | assumption | wp_step))
  refine codeAny_mono (code_set_led1 (.ref l) (E := E) (Q₁ := fun obj s₁ => obj = .ref s.heap.objs.size ∧ s₁ = { s with heap := newSet w s.heap }) ⟨rfl, rfl⟩) fun r s₁ hr => ?_
  cases r with
  | error e => exact hr
  | ok fl =>
    cases fl with
    | ret obj =>
      obtain ⟨rfl, rfl⟩ := hr
      have hS : (newSet w s.heap).get? s.heap.objs.size = some { cls := .type "set", dict := none, data := .set #[] 0 (.fresh 0 0 (!w.params.followText "set-order")) } := Heap.get?_push_size _ rfl
      have hT : Shared.TypeIs { s with heap := newSet w s.heap } (.ref s.heap.objs.size) "set" := ⟨_, hS, rfl⟩
      (have hli := F.called_set.init.lookup); have hbi := F.called_set.init.bind (.ref s.heap.objs.size)
      repeat (any_goals (first | assumption | wp_step))
      refine codeAny_mono (codeAny_call_builtin (R := wants (fun r s₂ => r = .none ∧ ∃ h' tk c, s₂ = { s with heap := h', toks := tk } ∧ SetM w h' s.heap.objs.size (inK ks) c ∧ c ≤ ks.length ∧ (∀ b o, s.heap.get? b = some o → h'.get? b = some o)) E) F.called_set.init.plain F.entry_set_init (check_set_init_1 hT ?_)) fun r₂ s₂ hr₂ => ?_
      · obtain ⟨ol, hol, hcl, nl, hdl⟩ := hl
        obtain ⟨ocls, odict, odata, oslots⟩ := ol
        simp only at hcl hdl
        subst hcl
        subst hdl
        have hol' : (newSet w s.heap).get? l = some { cls := .type "tuple", dict := odict, data := .seq items nl, slots := oslots } := Heap.get?_push_of_some _ hol
        (have hsls := F.sub_tuple_set); (have hslf := F.sub_tuple_frozenset)
        have hne : (Value.type "tuple" == Value.type "dict") = false := by decide
        have hl1 : (newSet w s.heap).IsTuple l items := ⟨_, hol', rfl, nl, rfl⟩
        unfold Builtin.«set.__init__» noKeywords Builtin.Frozenset.updateFrom
        generalize hPI : pyIter = PI
        wp_walk
        subst hPI
        refine wpAny_pyIter_tuple hl1 (wpAny_bind (wpAny_runValue ?_))
        have lS : l < s.heap.objs.size := Heap.lt_size hol
        have hh3 : A.in1.in1.in1.handled = none := by simp [hh]
        have z1 : (newSet w s.heap).objs.size = s.heap.objs.size + 1 := Heap.size_push ..
        have neI : l ≠ (newSet w s.heap).objs.size := by rw [z1]; exact Nat.ne_of_lt (Nat.lt_succ_of_lt (by assumption))
        have hSf : s.heap.objs.size ∉ [(newSet w s.heap).objs.size, l] := by
          rw [z1]
          simp only [List.mem_cons, List.mem_singleton, List.not_mem_nil, or_false, not_or]
          exact ⟨Nat.ne_of_lt (Nat.lt_succ_self _), Nat.ne_of_gt lS⟩
        have hval : ∀ (i : Nat) (v : Value), items[i]? = some v → ∃ k t, ks[i]? = some k ∧ v = kVal k t := fun i v hv => hit.get i v (by rw [Array.getElem?_toList]; exact hv)
        refine setM_update ((Walks.tuple hh3 _ l neI items).toS) s.heap.objs.size hSf ks hsz hb hval (items.size - 0) 0 _ (by omega) (Nat.zero_le _) ⟨⟨_, Heap.get?_push_size _ rfl, rfl, rfl⟩, (hl1.push _)⟩ ?_ ?_
        · exact ⟨0, Nat.le_refl 0, setM_new (ks := ks) (Heap.get?_push_of_some _ hS)⟩
        · intro s' c' hm hc' hS'
          obtain ⟨h', g2, d', tk', os'⟩ := s'
          (have eg : g2 = s.gens := hm.gens); (have ed : d' = s.drawn := hm.drawn); have eo : os' = s.os := hm.os
          subst eg
          subst ed
          subst eo
          show wpAny _ _ _ _ _ _
          refine wpAny_pure ?_
          show wpAny _ _ (ret Value.none) _ _ _
          rw [hsz] at hc'
          refine wpAny_pure ⟨rfl, h', tk', c', rfl, hS', hc', fun b o e => ?_⟩
          have b0 : b < s.heap.objs.size := Heap.lt_size e
          have b2 : b ≠ (newSet w s.heap).objs.size := by rw [z1]; exact Nat.ne_of_lt (Nat.lt_succ_of_lt (by assumption))
          exact hm.heap b o (by simp only [List.mem_cons, List.mem_singleton, List.not_mem_nil, or_false, not_or]; exact ⟨Nat.ne_of_lt b0, b2⟩) (Heap.get?_push_of_some _ (Heap.get?_push_of_some _ e))
      · cases r₂ with
        | error e => exact hr₂
        | ok fl₂ =>
          cases fl₂ with
          | ret r =>
            obtain ⟨rfl, h', tk, c', rfl, hS', hc', hk'⟩ := hr₂
            repeat (any_goals (first | assumption | wp_step))
            exact h _ _ _ hS' hc' hk'
          | _ => exact hr₂.elim
    | _ => exact hr.elim
/-- the items of a set, in some order -/
theorem collect_setM {S : Key → Bool} {n : Nat} {a : Addr} {Q : List Value → Shared → Prop} (R : SetM w s.heap a S n) (hh : A.handled = none)
    (hQ : ∀ s' vs ks, (∀ b o, s.heap.get? b = some o → s'.heap.get? b = some o) → s.heap.objs.size ≤ s'.heap.objs.size → s'.gens = s.gens → s'.os = s.os → Keys vs ks → ks.Nodup → (∀ k, S k = true ↔ k ∈ ks) → ks.length = n → Q vs s') : wpAny (model P w) A (collect (.ref a)) Q E s := by
  obtain ⟨o, es, ep, t, ho, hex, hd, g, nd, hm, hb, hf, hn, hr, hl⟩ := R
  refine collect_set hh ⟨o, ho, hex.1, hd⟩ hf hb hr hl fun s1 vs k1 hz g1 o1 pm => ?_
  have all : ∀ v ∈ vs, ∃ k t, v = kVal k t := fun v hv => by
    obtain ⟨e, he, q⟩ := List.mem_map.mp (pm.mem_iff.mp hv)
    obtain ⟨k, tk, h1, _⟩ := g e he
    exact ⟨k, tk, by rw [← q]; exact h1⟩
  have mk : ∀ l : List Value, (∀ v ∈ l, ∃ k t, v = kVal k t) → Keys l (l.map fun v => kOf (0, v)) := by
    intro l
    induction l with
    | nil => intro _; exact .nil
    | cons v l ih =>
      intro h
      obtain ⟨k, t, rfl⟩ := h v List.mem_cons_self
      rw [List.map_cons, kOf_val]
      exact .cons k t (ih fun u hu => h u (List.mem_cons_of_mem _ hu))
  have pk : (vs.map fun v => kOf (0, v)).Perm (es.toList.map kOf) := by
    have q := pm.map fun v => kOf (0, v)
    rw [List.map_map] at q
    exact q
  refine hQ s1 vs _ k1 hz g1 o1 (mk vs all) (pk.nodup_iff.mpr nd) (fun k => (hm k).trans pk.mem_iff.symm) ?_
  rw [List.length_map, pm.length_eq, List.length_map, Array.length_toList]
  exact hn
theorem sorted_setI {S : Key → Bool} {n : Nat} {a : Addr} {Q : Value → Shared → Prop} (R : SetM w s.heap a S n) (hh : A.handled = none) (h64 : n < 64) (hI : ∀ k, S k = true → ∃ i, k = .inl i)
    (hQ : ∀ s' p (out : Array Value) (c : Nat) (ns : List Int), (∀ b o, s.heap.get? b = some o → s'.heap.get? b = some o) → s'.gens = s.gens → s'.os = s.os → s.heap.objs.size ≤ p → s'.heap.get? p = some (seqObj "list" out c) → IntsAre out.toList ns → ns.Pairwise (· ≤ ·) → ns.Nodup → (∀ i, i ∈ ns ↔ S (.inl i) = true) → ns.length = n → Q (.ref p) s') :
    wpAny (model P w) A (call (.builtin "sorted") [.ref a]) Q E s := by
  refine Calls.call_function_entry kind_sorted plain_sorted entry_sorted (args_sorted1 _) ?_
  unfold Builtin.«sorted»
  refine wpAny_bind (m := checkCount "sorted" 1 1 _) (wpAny_pure (wpAny_bind (collect_setM (A := A.in1) R hh fun s1 vs ks k1 hz g1 o1 kk nd hm hn => ?_)))
  have vl : vs.length = n := kk.len.trans hn
  have hi : ∃ ns : List Int, IntsAre vs ns ∧ ks = ns.map Sum.inl := by
    have : ∀ k ∈ ks, ∃ i, k = Sum.inl i := fun k hk => hI k ((hm k).2 hk)
    clear hm nd hn vl hQ
    induction kk with
    | nil => exact ⟨[], .nil, rfl⟩
    | cons k t r ih =>
      obtain ⟨i, rfl⟩ := this k List.mem_cons_self
      obtain ⟨ns, a, b⟩ := ih fun k hk => this k (List.mem_cons_of_mem _ hk)
      exact ⟨i :: ns, .cons i t a, by rw [b]; rfl⟩
  obtain ⟨ns, hI2, rfl⟩ := hi
  refine wpAny_bind (wpAny_newList ?_ (by rw [vl, sizeLine_eq]; omega))
  have hoL : (s1.heap.push (seqObj "list" vs.toArray 0)).get? s1.heap.objs.size = some (seqObj "list" vs.toArray 0) := Heap.get?_push_size _ rfl
  refine wpAny_bind (wpAny_holding (wpAny_call_entry slot_list_sort ⟨_, hoL, rfl⟩ entry_list_sort (list_sort_tree hoL hI2 (by rw [vl]; exact h64) fun out ns' a1 a2 a3 => ⟨_, rfl, ?_⟩) (args_list_sort _)))
  obtain ⟨c, hc⟩ := sortedHeap_at (vs := vs) (out := out) hoL
  have nd2 : ns.Nodup := (nodup_inl nd)
  refine wpAny_pure ⟨_, rfl, hQ _ s1.heap.objs.size out c ns' (fun b u e => ?_) g1 o1 hz hc a1 a3 (a2.nodup_iff.mpr nd2) (fun i => ?_) ?_⟩
  · have q := k1 b u e
    have lt := Heap.lt_size q
    show (sortedHeap (s1.heap.push (seqObj "list" vs.toArray 0)) s1.heap.objs.size vs out).get? b = some u
    rw [sortedHeap_old (Nat.ne_of_lt lt) (by rw [size_push']; exact Nat.lt_succ_of_lt lt)]
    exact Heap.get?_push_of_some _ q
  · rw [a2.mem_iff, hm, List.mem_map]
    exact ⟨fun h => ⟨i, h, rfl⟩, fun ⟨j, hj, e⟩ => by cases e; exact hj⟩
  · rw [a2.length_eq, ← hn, List.length_map]
theorem nodup_inr {ns : List Str} (h : (ns.map (Sum.inr : Str → Key)).Nodup) : ns.Nodup := by
  induction ns with
  | nil => exact List.nodup_nil
  | cons x ns ih =>
    rw [List.map_cons, List.nodup_cons] at h
    exact List.nodup_cons.mpr ⟨fun q => h.1 (List.mem_map.mpr ⟨x, q, rfl⟩), ih h.2⟩
theorem sorted_setS {S : Key → Bool} {n : Nat} {a : Addr} {Q : Value → Shared → Prop} (R : SetM w s.heap a S n) (hh : A.handled = none) (h64 : n < 4096) (hI : ∀ k, S k = true → ∃ i, k = .inr i)
    (hQ : ∀ s' p (out : Array Value) (c : Nat) (ns : List Str), (∀ b o, s.heap.get? b = some o → s'.heap.get? b = some o) → s'.gens = s.gens → s'.os = s.os → s.heap.objs.size ≤ p → s'.heap.get? p = some (seqObj "list" out c) → StrsAre out.toList ns → sortedS ns = true → ns.Nodup → (∀ i, i ∈ ns ↔ S (.inr i) = true) → ns.length = n → Q (.ref p) s') :
    wpAny (model P w) A (call (.builtin "sorted") [.ref a]) Q E s := by
  refine Calls.call_function_entry kind_sorted plain_sorted entry_sorted (args_sorted1 _) ?_
  unfold Builtin.«sorted»
  refine wpAny_bind (m := checkCount "sorted" 1 1 _) (wpAny_pure (wpAny_bind (collect_setM (A := A.in1) R hh fun s1 vs ks k1 hz g1 o1 kk nd hm hn => ?_)))
  have vl : vs.length = n := kk.len.trans hn
  have hi : ∃ ns : List Str, StrsAre vs ns ∧ ks = ns.map Sum.inr := by
    have : ∀ k ∈ ks, ∃ i, k = Sum.inr i := fun k hk => hI k ((hm k).2 hk)
    clear hm nd hn vl hQ
    induction kk with
    | nil => exact ⟨[], .nil, rfl⟩
    | cons k t r ih =>
      obtain ⟨i, rfl⟩ := this k List.mem_cons_self
      obtain ⟨ns, a, b⟩ := ih fun k hk => this k (List.mem_cons_of_mem _ hk)
      exact ⟨i :: ns, .cons i t a, by rw [b]; rfl⟩
  obtain ⟨ns, hI2, rfl⟩ := hi
  refine wpAny_bind (wpAny_newList ?_ (by rw [vl, sizeLine_eq]; omega))
  have hoL : (s1.heap.push (seqObj "list" vs.toArray 0)).get? s1.heap.objs.size = some (seqObj "list" vs.toArray 0) := Heap.get?_push_size _ rfl
  refine wpAny_bind (wpAny_holding (wpAny_call_entry slot_list_sort ⟨_, hoL, rfl⟩ entry_list_sort (list_sort_treeKAny strKind_oneLt hoL hI2.keysOf (fun v₁ v₂ rest e => keyKind_strs (by rw [← e]; exact hI2)) (by rw [vl, sizeLine_eq]; omega) fun st' hp hs => ⟨_, rfl, ?_⟩) (args_list_sort _)))
  obtain ⟨ns', a1, a2, a3⟩ := sorted_out_str hI2 hp hs
  obtain ⟨c, hc⟩ := sortedHeap_at (vs := vs) (out := (arrOf st').map (·.2)) hoL
  have nd2 : ns.Nodup := nodup_inr nd
  refine wpAny_pure ⟨_, rfl, hQ _ s1.heap.objs.size _ c ns' (fun b u e => ?_) g1 o1 hz hc a1 a3 (a2.nodup_iff.mpr nd2) (fun i => ?_) ?_⟩
  · have q := k1 b u e
    have lt := Heap.lt_size q
    show (sortedHeap (s1.heap.push (seqObj "list" vs.toArray 0)) s1.heap.objs.size vs _).get? b = some u
    rw [sortedHeap_old (Nat.ne_of_lt lt) (by rw [size_push']; exact Nat.lt_succ_of_lt lt)]
    exact Heap.get?_push_of_some _ q
  · rw [a2.mem_iff, hm, List.mem_map]
    exact ⟨fun h => ⟨i, h, rfl⟩, fun ⟨j, hj, e⟩ => by cases e; exact hj⟩
  · rw [a2.length_eq, ← hn, List.length_map]
end
end Z

set_option Elab.async false
set_option linter.all false
set_option maxRecDepth 100000
set_option maxHeartbeats 4000000
/-! SetE: len(set(a)), sorted(set(a)). -/
namespace Z
open PySem L2 PySem.Spec PyProof.Rows
theorem nod_len {A : Type} : ∀ {l m : List A}, l.Nodup → (∀ x ∈ l, x ∈ m) → l.length ≤ m.length
  | [], m, _, _ => Nat.zero_le _
  | x :: l, m, h, g => by
    classical
    obtain ⟨h1, h2⟩ := List.nodup_cons.mp h
    have hx := g x List.mem_cons_self
    have ih := nod_len (l := l) (m := m.erase x) h2 fun y hy => (List.mem_erase_of_ne (fun e => by rw [e] at hy; exact h1 hy)).mpr (g y (List.mem_cons_of_mem _ hy))
    have := List.length_erase_of_mem hx
    have := List.length_pos_of_mem hx
    rw [List.length_cons]
    omega
theorem mem_ded {A : Type} [DecidableEq A] {x : A} : ∀ {xs : List A}, x ∈ ded xs ↔ x ∈ xs
  | [] => Iff.rfl
  | y :: xs => by
    unfold ded
    split
    · rename_i h
      rw [List.mem_cons, mem_ded]
      exact ⟨.inr, fun q => q.elim (fun e => e ▸ mem_ded.mp h) id⟩
    · rw [List.mem_cons, List.mem_cons, mem_ded]
theorem nod_ded {A : Type} [DecidableEq A] : ∀ xs : List A, (ded xs).Nodup
  | [] => List.nodup_nil
  | y :: xs => by
    unfold ded
    split
    · exact nod_ded xs
    · rename_i h
      exact List.nodup_cons.mpr ⟨h, nod_ded xs⟩
theorem ded_le {A : Type} [DecidableEq A] : ∀ xs : List A, (ded xs).length ≤ xs.length
  | [] => Nat.le_refl _
  | y :: xs => by
    have := ded_le xs
    unfold ded
    split <;> simp <;> omega
theorem nod_perm {A : Type} {l m : List A} (h : l.Nodup) (g : m.Nodup) (e : ∀ x, x ∈ l ↔ x ∈ m) : l.Perm m := (List.perm_ext_iff_of_nodup h g).mpr e
theorem keys_ints : ∀ {ns : List Int} {us : List Value}, Vals (ns.map V.int) us → Keys us (ns.map Sum.inl)
  | [], us, h => by
    rw [List.map_nil] at h
    cases h
    exact .nil
  | n :: ns, us, h => by
    rw [List.map_cons] at h
    cases h with
    | cons r t =>
      obtain ⟨tk, rfl⟩ := r
      exact .cons (.inl n) tk (keys_ints t)
theorem keys_strs : ∀ {ns : List Str} {us : List Value}, Vals (ns.map V.str) us → Keys us (ns.map Sum.inr)
  | [], us, h => by
    rw [List.map_nil] at h
    cases h
    exact .nil
  | n :: ns, us, h => by
    rw [List.map_cons] at h
    cases h with
    | cons r t =>
      obtain ⟨tk, rfl⟩ := r
      exact .cons (.inr n) tk (keys_strs t)
theorem map2_ded {ss : List (List Char)} {k : Key} : k ∈ ((ded ss).map toS).map (Sum.inr : Str → Key) ↔ k ∈ (ss.map toS).map Sum.inr := by
  rw [List.mem_map, List.mem_map]
  constructor
  · rintro ⟨x, hx, e⟩
    obtain ⟨y, hy, e2⟩ := List.mem_map.mp hx
    exact ⟨x, List.mem_map.mpr ⟨y, mem_ded.mp hy, e2⟩, e⟩
  · rintro ⟨x, hx, e⟩
    obtain ⟨y, hy, e2⟩ := List.mem_map.mp hx
    exact ⟨x, List.mem_map.mpr ⟨y, mem_ded.mpr hy, e2⟩, e⟩
theorem sorted_i {ns ys : List Int} (h1 : ys.Pairwise (· ≤ ·)) (h2 : ys.Nodup) (h3 : ∀ i, i ∈ ys ↔ i ∈ ns) : ys = sortI (ded ns) :=
  sortedI_eq (nod_perm h2 (nod_ded ns) fun x => (h3 x).trans mem_ded.symm) h1
theorem nod_toS : ∀ {ss : List (List Char)}, ss.Nodup → (ss.map toS).Nodup
  | [], _ => List.nodup_nil
  | s :: ss, h => by
    obtain ⟨h1, h2⟩ := List.nodup_cons.mp h
    rw [List.map_cons]
    refine List.nodup_cons.mpr ⟨fun q => ?_, nod_toS h2⟩
    obtain ⟨x, hx, e⟩ := List.mem_map.mp q
    exact h1 (toS_inj e ▸ hx)
theorem sorted_s {ss : List (List Char)} {ys : List Str} (h1 : sortedS ys = true) (h2 : ys.Nodup) (h3 : ∀ i, i ∈ ys ↔ i ∈ ss.map toS) : ys = (sortS (ded ss)).map toS := by
  refine sorted_eq (nod_perm h2 (nod_toS (nod_ded ss)) fun x => (h3 x).trans ?_) h1
  rw [List.mem_map, List.mem_map]
  exact ⟨fun ⟨y, hy, e⟩ => ⟨y, mem_ded.mpr hy, e⟩, fun ⟨y, hy, e⟩ => ⟨y, mem_ded.mp hy, e⟩⟩
section
variable {X : Cx}
theorem setM_len {w : World} {h : Heap} {a : Addr} {ks : List Key} {n : Nat} (R : SetM w h a (inK ks) n) {l : List Key} (nd : l.Nodup) (e : ∀ k, k ∈ l ↔ k ∈ ks) : n = l.length := by
  obtain ⟨o, es, ep, t, _, _, _, _, nd2, hm, _, _, hn, _⟩ := R
  have h1 := nod_len nd2 fun k hk => (e k).mpr (inK_iff.mp ((hm k).mpr hk))
  have h2 := nod_len nd fun k hk => (hm k).mp (inK_iff.mpr ((e k).mp hk))
  have h3 : es.toList.length = es.size := Array.length_toList
  rw [List.length_map] at h1 h2
  omega
theorem nod_inl {ns : List Int} (h : ns.Nodup) : (ns.map (Sum.inl : Int → Key)).Nodup := by
  induction ns with
  | nil => exact List.nodup_nil
  | cons x ns ih =>
    obtain ⟨h1, h2⟩ := List.nodup_cons.mp h
    rw [List.map_cons]
    refine List.nodup_cons.mpr ⟨fun q => ?_, ih h2⟩
    obtain ⟨y, hy, e⟩ := List.mem_map.mp q
    cases e
    exact h1 hy
theorem nod_inr {ns : List Str} (h : ns.Nodup) : (ns.map (Sum.inr : Str → Key)).Nodup := by
  induction ns with
  | nil => exact List.nodup_nil
  | cons x ns ih =>
    obtain ⟨h1, h2⟩ := List.nodup_cons.mp h
    rw [List.map_cons]
    refine List.nodup_cons.mpr ⟨fun q => ?_, ih h2⟩
    obtain ⟨y, hy, e⟩ := List.mem_map.mp q
    cases e
    exact h1 hy
/-- a new list that a call has laid -/
theorem laid_lst {pins : List (Addr × Obj)} {σ : L2.St} {H : Hp} {s s' : Shared} {p c : Nat} {out : Array Value} {vs : List V} {Q : VK} (I : Inv X pins σ H s) (k : ∀ b o, s.heap.get? b = some o → s'.heap.get? b = some o) (g : s'.gens = s.gens) (o : s'.os = s.os) (hp : s.heap.objs.size ≤ p) (hg : s'.heap.get? p = some (seqObj "list" out c)) (hz : vs.length ≤ sizeLine) (hv : Vals vs out.toList) (q : H p = none → Q (.ref p) (upd H p (.lst vs))) : EP X pins σ Q (.ref p) s' := by
  have hn : H p = none := I.hok.fresh hp
  have J : Inv X pins σ (upd H p (.lst vs)) { s with heap := s'.heap, gens := s'.gens, drawn := s'.drawn, toks := s'.toks } := I.call (ch := []) (Un.laid k hp hn) (I.hok.laid k hp ⟨hz, out.toList, c, hv, hg⟩) (by rw [g]; exact I.bare) (fun _ z => nomatch z)
  have e : s' = { s with heap := s'.heap, gens := s'.gens, drawn := s'.drawn, toks := s'.toks } := by
    cases s'
    cases s
    cases o
    rfl
  rw [e]
  exact ⟨.ref p, _, J, rfl, q hn⟩
theorem call_set_any {pins : List (Addr × Obj)} {σ : L2.St} {H : Hp} {s : Shared} {a : Addr} {xs : List V} {ks : List Key} {E : Value → Shared → Prop} {Q : Value → Shared → Prop} (hc : X.calm = true) (I : Inv X pins σ H s) (hq : SqL X.K H a xs ∨ SqT X.K H a xs) (hk : ∀ us, Vals xs us → Keys us ks) (hb : ks.length < 4000)
    (h : ∀ (h' : Heap) (tk c : Nat), SetM X.w h' s.heap.objs.size (inK ks) c → (∀ b o, s.heap.get? b = some o → h'.get? b = some o) → Q (.ref s.heap.objs.size) { s with heap := h', toks := tk }) : wpAny (model X.prog X.w) X.A (call (.type "set") [.ref a]) Q E s := by
  have hb2 : ks.length + 1 < scanBound := by unfold scanBound; omega
  rcases hq with hq | hq
  · obtain ⟨its, r, pl, _⟩ := I.list hq
    exact call_set_lst ks (I.ok.hd hc) pl.isList (hk _ r) hb2 fun h' tk c R _ k => h h' tk c R k
  · obtain ⟨its, r, pl, _⟩ := I.tuple hq
    exact call_set_tup ks (I.ok.hd hc) (show s.heap.IsTuple a its.toArray from pl) (hk _ r) hb2 fun h' tk c R _ k => h h' tk c R k
theorem se_set {a : Expr} {fa : Env → Store → R (D × Store)} {m srt : Bool} {f : Str} {p p2 q0 pos : Pos} (hc : X.calm = true) (hf : f = if srt then "sorted" else "len") (hg : Gl X f) (hm : X.mg f = none) (hg2 : Gl X "set") (hm2 : X.mg "set" = none) (ha : PE X a (tEv X.kw fa)) (na : starEach [a] X.env = (false, eval a X.env) :: starEach [] X.env) :
    PE X (.Call (.Name f p) [.Call (.Name "set" p2) [a] [] q0] [] pos) (tEv X.kw fun rho S => (fa rho S).bind fun p => setD m srt p.1 p.2) := by
  refine ⟨fun pins s σ H Q I ⟨al, U, S, rho, d, S', sr, er, e, q⟩ => ?_⟩
  obtain ⟨⟨d1, S1⟩, e1, e⟩ := R.bind_ok e
  have go : ∀ {Q1 : Value → Shared → Prop}, (∀ (v : Value) s1, (∃ x H1 al1, Inv X pins σ H1 s1 ∧ RelV x v ∧ Nxt al S.length H al1 S1.length H1 ∧ SR X.kw al1 U S1 H1 ∧ Rep X.kw al1 S1.length U H1 d1 x) → wpAny (model X.prog X.w) X.A (call (.type "set") [v]) Q1 X.xe s1) → wpAny (model X.prog X.w) X.A (eval (.Call (.Name "set" p2) [a] [] q0) X.env) Q1 X.xe s := by
    intro Q1 hh
    refine Call_ (ld_blt I hg2 hm2 PyProof.Rows.boot_set ?_)
    refine PyProof.Rows.callWith_type1 (PyProof.Rows.args_cons (thn (ha.run pins s σ H (fun x H1 => ∃ al1, Nxt al S.length H al1 S1.length H1 ∧ SR X.kw al1 U S1 H1 ∧ Rep X.kw al1 S1.length U H1 d1 x) I ⟨al, U, S, rho, d1, S1, sr, er, e1, fun v1 H1 al1 n1 sr1 r1 => ⟨al1, n1, sr1, r1⟩⟩) fun v s1 ⟨x, H1, I1, r1, al1, n1, sr1, rr⟩ => PyProof.Rows.args_nil ?_) na) na rfl
    exact hh v s1 ⟨x, H1, al1, I1, r1, n1, sr1, rr⟩
  unfold setD at e
  simp only at e
  split at e
  · rename_i ds ei
    split at e
    · rename_i ss es
      split at e
      · rename_i hl
        have sets : ∀ {Q1 : Value → Shared → Prop} (v : Value) s1, (∃ x H1 al1, Inv X pins σ H1 s1 ∧ RelV x v ∧ Nxt al S.length H al1 S1.length H1 ∧ SR X.kw al1 U S1 H1 ∧ Rep X.kw al1 S1.length U H1 d1 x) →
            (∀ (H1 : Hp) al1 (h' : Heap) (tk c : Nat), SetM X.w h' s1.heap.objs.size (inK ((ss.map toS).map Sum.inr)) c → Inv X pins σ H1 { s1 with heap := h', toks := tk } → Nxt al S.length H al1 S1.length H1 → SR X.kw al1 U S1 H1 → (∀ s ∈ ss, s.length ≤ sizeLine) → Q1 (.ref s1.heap.objs.size) { s1 with heap := h', toks := tk }) → wpAny (model X.prog X.w) X.A (call (.type "set") [v]) Q1 X.xe s1 := by
          intro Q1 v s1 ⟨x, H1, al1, I1, rx, n1, sr1, rr⟩ fin
          obtain ⟨pa, vs, rfl, hq, l, rs⟩ := items_rep sr1 rr ei
          obtain ⟨ev, el, hsz⟩ := allStr_rep rs es
          cases rx
          refine call_set_any hc I1 hq (ks := (ss.map toS).map Sum.inr) (fun us r => ?_) (by simpa using hl) fun h' tk c R k => fin H1 al1 h' tk c R (I1.kept k) n1 sr1 hsz
          rw [ev] at r
          have : (ss.map fun s => V.str (toS s)) = (ss.map toS).map V.str := by rw [List.map_map]; rfl
          rw [this] at r
          exact keys_strs r
        cases srt with
        | true =>
          rw [if_pos rfl] at e
          have hf : f = "sorted" := hf
          subst hf
          refine Call_ (ld_blt I hg hm boot_sorted ?_)
          refine PyProof.Rows.callWith_builtin1 (PyProof.Rows.args_cons (go fun v s1 hh => sets v s1 hh fun H1 al1 h' tk c R I2 n1 sr1 hsz => PyProof.Rows.args_nil ?_) rfl) rfl rfl
          have ec := setM_len R (l := ((ded ss).map toS).map Sum.inr) (nod_inr (nod_toS (nod_ded ss))) fun k => by
            exact map2_ded
          rw [List.length_map, List.length_map] at ec
          have hd := ded_le ss
          refine sorted_setS R (I2.ok.hd hc) (by omega) (fun k hk => ?_) fun s' p out c2 ns k g o hp hgt hi hs nd hm3 hn => ?_
          · obtain ⟨i, _, e⟩ := List.mem_map.mp (inK_iff.mp hk)
            exact ⟨i, e.symm⟩
          · have ens := sorted_s (ss := ss) hs nd fun i => by
              rw [hm3, inK_iff, List.mem_map]
              exact ⟨fun ⟨j, hj, e⟩ => by cases e; exact hj, fun h => ⟨i, h, rfl⟩⟩
            subst ens
            have hl3 : ∀ x ∈ sortS (ded ss), x.length ≤ sizeLine := fun x hx => hsz x (mem_ded.mp ((sortS_perm _).mem_iff.mp hx))
            refine laid_lst I2 k g o hp hgt (vs := ((sortS (ded ss)).map toS).map V.str) (by rw [List.length_map, List.length_map, sortS_length, sizeLine_eq]; omega) (vals_of_strs hi) fun hn => ?_
            rw [List.map_map]
            exact new_lit sr1 e (by rw [List.length_map, sortS_length, sizeLine_eq]; omega) (strs_rep _ hl3) (fun v H2 al2 n2 sr2 r2 => q v H2 al2 (sr1.trans n1 n2) sr2 r2) _ hn
        | false =>
          rw [if_neg Bool.false_ne_true] at e
          cases e
          have hf : f = "len" := hf
          subst hf
          refine Call_ (ld_blt I hg hm PySem.boot_len ?_)
          refine PyProof.Rows.callWith_builtin1 (PyProof.Rows.args_cons (go fun v s1 hh => sets v s1 hh fun H1 al1 h' tk c R I2 n1 sr1 hsz => PyProof.Rows.args_nil ?_) rfl) rfl rfl
          have ec := setM_len R (l := ((ded ss).map toS).map Sum.inr) (nod_inr (nod_toS (nod_ded ss))) fun k => by
            exact map2_ded
          rw [List.length_map, List.length_map] at ec
          obtain ⟨o, es, ep, t, ho, hex, hd, _, _, _, hb, hf2, hn, _⟩ := R
          refine call_len_set ho hex hd hf2 (by unfold scanBound at hb; omega) ⟨.int (ded ss).length, H1, I2.tok _, ⟨_, by rw [hn, ec]⟩, q _ _ al1 n1 sr1 (by simp only [Rep])⟩
      · cases e
    · split at e
      · rename_i ns es
        split at e
        · rename_i hl
          have sets : ∀ {Q1 : Value → Shared → Prop} (v : Value) s1, (∃ x H1 al1, Inv X pins σ H1 s1 ∧ RelV x v ∧ Nxt al S.length H al1 S1.length H1 ∧ SR X.kw al1 U S1 H1 ∧ Rep X.kw al1 S1.length U H1 d1 x) →
              (∀ (H1 : Hp) al1 (h' : Heap) (tk c : Nat), SetM X.w h' s1.heap.objs.size (inK (ns.map Sum.inl)) c → Inv X pins σ H1 { s1 with heap := h', toks := tk } → Nxt al S.length H al1 S1.length H1 → SR X.kw al1 U S1 H1 → Q1 (.ref s1.heap.objs.size) { s1 with heap := h', toks := tk }) → wpAny (model X.prog X.w) X.A (call (.type "set") [v]) Q1 X.xe s1 := by
            intro Q1 v s1 ⟨x, H1, al1, I1, rx, n1, sr1, rr⟩ fin
            obtain ⟨pa, vs, rfl, hq, l, rs⟩ := items_rep sr1 rr ei
            obtain ⟨ev, el⟩ := allInt_rep rs es
            cases rx
            refine call_set_any hc I1 hq (ks := ns.map Sum.inl) (fun us r => ?_) (by simpa using hl) fun h' tk c R k => fin H1 al1 h' tk c R (I1.kept k) n1 sr1
            rw [ev] at r
            exact keys_ints r
          cases srt with
          | true =>
            rw [if_pos rfl] at e
            split at e
            · rename_i h64
              have hf : f = "sorted" := hf
              subst hf
              refine Call_ (ld_blt I hg hm boot_sorted ?_)
              refine PyProof.Rows.callWith_builtin1 (PyProof.Rows.args_cons (go fun v s1 hh => sets v s1 hh fun H1 al1 h' tk c R I2 n1 sr1 => PyProof.Rows.args_nil ?_) rfl) rfl rfl
              have ec := setM_len R (l := (ded ns).map Sum.inl) (nod_inl (nod_ded ns)) fun k => by
                simp only [List.mem_map, mem_ded]
              rw [List.length_map] at ec
              have hd := ded_le ns
              refine sorted_setI R (I2.ok.hd hc) (by omega) (fun k hk => ?_) fun s' p out c2 ys k g o hp hgt hi hs nd hm3 hn => ?_
              · obtain ⟨i, _, e⟩ := List.mem_map.mp (inK_iff.mp hk)
                exact ⟨i, e.symm⟩
              · have ens := sorted_i (ns := ns) hs nd fun i => by
                  rw [hm3, inK_iff, List.mem_map]
                  exact ⟨fun ⟨j, hj, e⟩ => by cases e; exact hj, fun h => ⟨i, h, rfl⟩⟩
                subst ens
                refine laid_lst I2 k g o hp hgt (vs := (sortI (ded ns)).map V.int) (by rw [List.length_map, sortI_length, sizeLine_eq]; omega) (vals_of_ints hi) fun hn => ?_
                exact new_lit sr1 e (by rw [List.length_map, sortI_length, sizeLine_eq]; omega) (ints_rep _) (fun v H2 al2 n2 sr2 r2 => q v H2 al2 (sr1.trans n1 n2) sr2 r2) _ hn
            · cases e
          | false =>
            rw [if_neg Bool.false_ne_true] at e
            cases e
            have hf : f = "len" := hf
            subst hf
            refine Call_ (ld_blt I hg hm PySem.boot_len ?_)
            refine PyProof.Rows.callWith_builtin1 (PyProof.Rows.args_cons (go fun v s1 hh => sets v s1 hh fun H1 al1 h' tk c R I2 n1 sr1 => PyProof.Rows.args_nil ?_) rfl) rfl rfl
            have ec := setM_len R (l := (ded ns).map Sum.inl) (nod_inl (nod_ded ns)) fun k => by
              simp only [List.mem_map, mem_ded]
            rw [List.length_map] at ec
            obtain ⟨o, es, ep, t, ho, hex, hd, _, _, _, hb, hf2, hn, _⟩ := R
            refine call_len_set ho hex hd hf2 (by unfold scanBound at hb; omega) ⟨.int (ded ns).length, H1, I2.tok _, ⟨_, by rw [hn, ec]⟩, q _ _ al1 n1 sr1 (by simp only [Rep])⟩
        · cases e
      · cases e
  · cases e
end
end Z

set_option Elab.async false
set_option linter.all false
set_option maxRecDepth 100000
set_option maxHeartbeats 4000000
/-! ZipA: zip of two sequences, each a list or a tuple. -/
namespace Z
open PySem L2 PySem.Spec PyProof.Rows
open PySem.Sem (wp)
/-- an iterator over a list (false) or a tuple (true) -/
def KI : Bool → Heap → Addr → Addr → Nat → Prop
  | false, h, a, l, i => h.IsListIter a l i
  | true, h, a, l, i => h.IsTupleIter a l i
def KO : Bool → Heap → Addr → Array Value → Prop
  | false, h, l, xs => h.IsList l xs
  | true, h, l, xs => h.IsTuple l xs
def KN : Bool → String
  | false => "list_iterator"
  | true => "tuple_iterator"
theorem KI.ext {t : Bool} {h h' : Heap} {a b l : Addr} {i : Nat} (x : KI t h a l i) (e : Heap.ExtBut b h h') (n : a ≠ b) : KI t h' a l i := by
  cases t with
  | false => exact Heap.IsListIter.extBut x e n
  | true => exact Heap.IsTupleIter.extBut x e n
theorem KO.ext {t : Bool} {h h' : Heap} {b l : Addr} {xs : Array Value} (x : KO t h l xs) (e : Heap.ExtBut b h h') (n : l ≠ b) : KO t h' l xs := by
  cases t with
  | false => exact Heap.IsList.extBut x e n
  | true => exact Heap.IsTuple.extBut x e n
theorem KI.mv {t : Bool} {h h' : Heap} {a l : Addr} {i : Nat} (x : KI t h a l i) (e : ∀ o, h.get? a = some o → h'.get? a = some o) : KI t h' a l i := by
  cases t with
  | false => exact Heap.IsListIter.at x e
  | true => exact Heap.IsTupleIter.at x e
theorem KI.ob {t : Bool} {h : Heap} {a l : Addr} {i : Nat} (x : KI t h a l i) : ∃ o, h.get? a = some o ∧ ∀ u, o.data ≠ .cell u := by
  cases t with
  | false => obtain ⟨o, e, _, d⟩ := x; exact ⟨o, e, fun v q => by rw [d] at q; cases q⟩
  | true => obtain ⟨o, e, _, d⟩ := x; exact ⟨o, e, fun v q => by rw [d] at q; cases q⟩
theorem KI.lt {t : Bool} {h : Heap} {a l : Addr} {i : Nat} (x : KI t h a l i) : a < h.objs.size := let ⟨_, e, _⟩ := x.ob; Heap.lt_size e
theorem KO.lt {t : Bool} {h : Heap} {l : Addr} {xs : Array Value} (x : KO t h l xs) : l < h.objs.size := by
  cases t with
  | false => exact let ⟨_, ho, _⟩ := x; Heap.lt_size ho
  | true => exact let ⟨_, ho, _⟩ := x; Heap.lt_size ho
section
variable {prog : Program} {w : World} {A : Around} {E : Value → Shared → Prop} {s : Shared}
theorem ki_item {t : Bool} {it l : Addr} {i : Nat} {items : Array Value} {x : Value} {Q : Value → Shared → Prop} (a : KI t s.heap it l i) (b : KO t s.heap l items) (hx : items[i]? = some x)
    (hQ : ∀ h', KI t h' it l (i + 1) → Heap.SameBut it s.heap h' → Q x { s with heap := h' }) : wpAny (model prog w) A (Builtin.SmallTypes.nextOf (.ref it)) Q E s := by
  cases t with
  | false => exact wpAny_nextOf_list_item a b hx hQ
  | true => exact RZ.nextOf_tuple_item a b hx hQ
theorem ki_end {t : Bool} {it l : Addr} {i : Nat} {items : Array Value} {Q : Value → Shared → Prop} (hh : A.handled = none) (a : KI t s.heap it l i) (b : KO t s.heap l items) (hx : items[i]? = none)
    (hE : ∀ h' e, Heap.ExtBut it s.heap h' → (∃ o, h'.get? e = some o ∧ o.cls = .type "StopIteration") → E (.ref e) { s with heap := h' }) : wpAny (model prog w) A (Builtin.SmallTypes.nextOf (.ref it)) Q E s := by
  cases t with
  | false => exact wpAny_nextOf_list_end hh a b hx hE
  | true => exact RZ.nextOf_tuple_end hh a b hx hE
/-- what of the heap stays: all but the zip, its pair, both iterators -/
abbrev Stay (z TO i1 i2 : Addr) (h h' : Heap) : Prop := ∀ c o, c ≠ z → c ≠ TO → c ≠ i1 → c ≠ i2 → h.get? c = some o → h'.get? c = some o
theorem za_item {t t' : Bool} {z TI TO i1 i2 l1 l2 : Addr} {k1 k2 : Nat} {xs ys : Array Value} {x y a b : Value} {Q : Value → Shared → Prop} (D : ZipApart z TI TO i1 i2 l1 l2)
    (hz : IsZip s.heap z TI TO .none) (pI : IsPair s.heap TI (.ref i1) (.ref i2)) (pO : IsPair s.heap TO a b) (g1 : KI t s.heap i1 l1 k1) (g2 : KI t' s.heap i2 l2 k2) (o1 : KO t s.heap l1 xs) (o2 : KO t' s.heap l2 ys) (ex : xs[k1]? = some x) (ey : ys[k2]? = some y)
    (hQ : ∀ h', IsZip h' z TI TO (rawInt s.heap.objs.size) → IsPair h' TO x y → KI t h' i1 l1 (k1 + 1) → KI t' h' i2 l2 (k2 + 1) → IsPair h' s.heap.objs.size x y → h'.objs.size = s.heap.objs.size + 1 → Stay z TO i1 i2 s.heap h' → Q (.ref s.heap.objs.size) { s with heap := h' }) :
    wpAny (model prog w) A (Builtin.«zip.__next__» ⟨[.ref z], []⟩) (fun fin s' => ∃ v, fin = .done (.ret v) ∧ Q v s') E s := by
  (show wpAny _ _ (field (.ref z) 2 >>= _) _ _ _); refine wpAny_bind (wpAny_field hz rfl (x := .bool false) rfl ?_)
  (show wpAny _ _ (field (.ref z) 3 >>= _) _ _ _); refine wpAny_bind (wpAny_field hz rfl (x := .ref TI) rfl ?_)
  refine wpAny_bind (wpAny_seqItems pI rfl ?_)
  (show wpAny _ _ (Builtin.SmallTypes.ownedTupleIsFree (.ref z) >>= _) _ _ _); refine wpAny_bind ?_
  (unfold Builtin.SmallTypes.ownedTupleIsFree); refine wpAny_bind (wpAny_field hz rfl (x := .none) rfl (wpAny_pure ?_))
  rw [if_pos rfl]
  refine wpAny_bind (wpAny_rule ?_)
  (refine wpAny_bind (wpAny_field hz rfl (x := .ref TO) rfl ?_)); refine wpAny_bind (wpAny_setField_rec hz (by simp) fun h₁ hz₁ s₁ => ?_)
  have hz₁ : IsZip h₁ z TI TO .ellipsis := hz₁
  refine wpAny_bind ?_
  simp only [List.zipIdx_cons, List.zipIdx_nil, List.forIn_nil, List.forIn_cons]
  (refine wpAny_bind (wpAny_bind (wpAny_onRaise ?_))); show wpAny _ _ (Builtin.SmallTypes.nextOf (.ref i1) >>= _) _ _ _
  refine wpAny_bind (ki_item (g1.ext s₁.extBut D.i1z) (o1.ext s₁.extBut D.l1z) ex fun h₂ g1₂ s₂ => wpAny_pure ?_)
  have pO₂ : IsPair h₂ TO a b := s₂.extBut _ _ D.TOi1 (s₁.extBut _ _ D.TOz pO)
  refine wpAny_bind (wpAny_seqItems pO₂ rfl ?_)
  refine wpAny_bind (wpAny_updateSeq_pair pO₂ fun h₃ pO₃ s₃ => ?_)
  have pO₃ : IsPair h₃ TO x b := pO₃
  refine wpAny_bind (wpAny_letGo (wpAny_pure ?_))
  (refine wpAny_bind (wpAny_bind (wpAny_onRaise ?_))); show wpAny _ _ (Builtin.SmallTypes.nextOf (.ref i2) >>= _) _ _ _
  refine wpAny_bind (ki_item (((g2.ext s₁.extBut D.i2z).ext s₂.extBut D.i12.symm).ext s₃.extBut D.TOi2.symm) (((o2.ext s₁.extBut D.l2z).ext s₂.extBut D.l2i1).ext s₃.extBut D.l2TO) ey fun h₄ g2₄ s₄ => wpAny_pure ?_)
  have pO₄ : IsPair h₄ TO x b := s₄.extBut _ _ D.TOi2 pO₃
  refine wpAny_bind (wpAny_seqItems pO₄ rfl ?_)
  refine wpAny_bind (wpAny_updateSeq_pair pO₄ fun h₅ pO₅ s₅ => ?_)
  have pO₅ : IsPair h₅ TO x y := pO₅
  refine wpAny_bind (wpAny_letGo (wpAny_pure (wpAny_pure ?_)))
  (refine wpAny_bind (wpAny_seqItems pO₅ rfl ?_)); refine wpAny_bind (wpAny_newTuple ?_)
  have es : h₅.objs.size = s.heap.objs.size := by rw [s₅.1, s₄.1, s₃.1, s₂.1, s₁.1]
  have hz₅ : IsZip h₅ z TI TO .ellipsis := s₅.extBut _ _ D.TOz.symm (s₄.extBut _ _ D.i2z.symm (s₃.extBut _ _ D.TOz.symm (s₂.extBut _ _ D.i1z.symm hz₁)))
  have k₅ : Stay z TO i1 i2 s.heap h₅ := fun c o c1 c2 c3 c4 e => s₅.extBut _ _ c2 (s₄.extBut _ _ c4 (s₃.extBut _ _ c2 (s₂.extBut _ _ c3 (s₁.extBut _ _ c1 e))))
  have g1₅ : KI t h₅ i1 l1 (k1 + 1) := ((g1₂.ext s₃.extBut D.TOi1.symm).ext s₄.extBut D.i12).ext s₅.extBut D.TOi1.symm
  have g2₅ : KI t' h₅ i2 l2 (k2 + 1) := g2₄.ext s₅.extBut D.TOi2.symm
  have zl : z < h₅.objs.size := Heap.lt_size hz₅
  (show wpAny _ _ (Builtin.SmallTypes.ownedTupleHandOut (.ref z) (.ref h₅.objs.size) >>= _) _ _ _); refine wpAny_bind ?_
  unfold Builtin.SmallTypes.ownedTupleHandOut
  have hz₆ : IsZip (h₅.push { cls := .type "tuple", data := .seq #[x, y] }) z TI TO .ellipsis := Heap.get?_push_of_some _ hz₅
  refine wpAny_bind (wpAny_setField_rec hz₆ (by simp) fun h₇ hz₇ s₇ => ?_)
  have hz₇ : IsZip h₇ z TI TO (rawInt h₅.objs.size) := hz₇
  refine wpAny_setField_rec hz₇ (by simp) fun h₈ hz₈ s₈ => ?_
  have hz₈ : IsZip h₈ z TI TO (rawInt h₅.objs.size) := hz₈
  have up : ∀ c o, c ≠ z → h₅.get? c = some o → h₈.get? c = some o := fun c o c1 e => s₈.extBut _ _ c1 (s₇.extBut _ _ c1 (Heap.get?_push_of_some _ e))
  have pT₈ : IsPair h₈ h₅.objs.size x y := s₈.extBut _ _ (Nat.ne_of_gt zl) (s₇.extBut _ _ (Nat.ne_of_gt zl) (Heap.get?_push_size _ rfl))
  have z8 : h₈.objs.size = h₅.objs.size + 1 := by rw [s₈.1, s₇.1, Heap.size_push]
  rw [es] at hz₈ pT₈ z8
  refine wpAny_pure ⟨_, rfl, ?_⟩
  show Q (.ref h₅.objs.size) _
  rw [es]
  exact hQ h₈ hz₈ (up _ _ D.TOz pO₅) (g1₅.mv fun o e => up _ o D.i1z e) (g2₅.mv fun o e => up _ o D.i2z e) pT₈ z8 fun c o c1 c2 c3 c4 e => up c o c1 (k₅ c o c1 c2 c3 c4 e)
theorem za_end {t t' : Bool} {z TI TO i1 i2 l1 l2 : Addr} {k1 k2 : Nat} {xs ys : Array Value} {a b : Value} {Q : Fin → Shared → Prop} (hh : A.handled = none) (D : ZipApart z TI TO i1 i2 l1 l2)
    (hz : IsZip s.heap z TI TO .none) (pI : IsPair s.heap TI (.ref i1) (.ref i2)) (pO : IsPair s.heap TO a b) (g1 : KI t s.heap i1 l1 k1) (g2 : KI t' s.heap i2 l2 k2) (o1 : KO t s.heap l1 xs) (o2 : KO t' s.heap l2 ys) (he : xs[k1]? = none ∨ ys[k2]? = none)
    (hE : ∀ h' e, Stay z TO i1 i2 s.heap h' → (∃ o, h'.get? e = some o ∧ o.cls = .type "StopIteration") → E (.ref e) { s with heap := h' }) :
    wpAny (model prog w) A (Builtin.«zip.__next__» ⟨[.ref z], []⟩) Q E s := by
  (show wpAny _ _ (field (.ref z) 2 >>= _) _ _ _); refine wpAny_bind (wpAny_field hz rfl (x := .bool false) rfl ?_)
  (show wpAny _ _ (field (.ref z) 3 >>= _) _ _ _); refine wpAny_bind (wpAny_field hz rfl (x := .ref TI) rfl ?_)
  refine wpAny_bind (wpAny_seqItems pI rfl ?_)
  (show wpAny _ _ (Builtin.SmallTypes.ownedTupleIsFree (.ref z) >>= _) _ _ _); refine wpAny_bind ?_
  (unfold Builtin.SmallTypes.ownedTupleIsFree); refine wpAny_bind (wpAny_field hz rfl (x := .none) rfl (wpAny_pure ?_))
  rw [if_pos rfl]
  refine wpAny_bind (wpAny_rule ?_)
  (refine wpAny_bind (wpAny_field hz rfl (x := .ref TO) rfl ?_)); refine wpAny_bind (wpAny_setField_rec hz (by simp) fun h₁ hz₁ s₁ => ?_)
  have hz₁ : IsZip h₁ z TI TO .ellipsis := hz₁
  refine wpAny_bind ?_
  simp only [List.zipIdx_cons, List.zipIdx_nil, List.forIn_nil, List.forIn_cons]
  (refine wpAny_bind (wpAny_bind (wpAny_onRaise ?_))); show wpAny _ _ (Builtin.SmallTypes.nextOf (.ref i1) >>= _) _ _ _
  cases ex : xs[k1]? with
  | none =>
    refine wpAny_bind (ki_end hh (g1.ext s₁.extBut D.i1z) (o1.ext s₁.extBut D.l1z) ex fun h₂ e s₂ he => ?_)
    obtain ⟨oe, qe, ce⟩ := he
    have hz₂ : IsZip h₂ z TI TO .ellipsis := s₂ _ _ D.i1z.symm hz₁
    have ez : e ≠ z := fun x => by subst x; rw [hz₂] at qe; cases qe; simp at ce
    exact wpAny_setField_rec hz₂ (by simp) fun h₃ _ s₃ => hE h₃ e (fun c o c1 _ c3 _ x => s₃.extBut _ _ c1 (s₂ _ _ c3 (s₁.extBut _ _ c1 x))) ⟨oe, s₃.extBut _ _ ez qe, ce⟩
  | some x =>
    have ey : ys[k2]? = none := by
      rcases he with h | h
      · rw [ex] at h; cases h
      · exact h
    refine wpAny_bind (ki_item (g1.ext s₁.extBut D.i1z) (o1.ext s₁.extBut D.l1z) ex fun h₂ g1₂ s₂ => wpAny_pure ?_)
    have pO₂ : IsPair h₂ TO a b := s₂.extBut _ _ D.TOi1 (s₁.extBut _ _ D.TOz pO)
    refine wpAny_bind (wpAny_seqItems pO₂ rfl ?_)
    refine wpAny_bind (wpAny_updateSeq_pair pO₂ fun h₃ pO₃ s₃ => ?_)
    refine wpAny_bind (wpAny_letGo (wpAny_pure ?_))
    (refine wpAny_bind (wpAny_bind (wpAny_onRaise ?_))); show wpAny _ _ (Builtin.SmallTypes.nextOf (.ref i2) >>= _) _ _ _
    refine wpAny_bind (ki_end hh (((g2.ext s₁.extBut D.i2z).ext s₂.extBut D.i12.symm).ext s₃.extBut D.TOi2.symm) (((o2.ext s₁.extBut D.l2z).ext s₂.extBut D.l2i1).ext s₃.extBut D.l2TO) ey fun h₄ e s₄ he => ?_)
    obtain ⟨oe, qe, ce⟩ := he
    have hz₄ : IsZip h₄ z TI TO .ellipsis := s₄ _ _ D.i2z.symm (s₃.extBut _ _ D.TOz.symm (s₂.extBut _ _ D.i1z.symm hz₁))
    have ez : e ≠ z := fun x => by subst x; rw [hz₄] at qe; cases qe; simp at ce
    exact wpAny_setField_rec hz₄ (by simp) fun h₅ _ s₅ => hE h₅ e (fun c o c1 c2 c3 c4 x => s₅.extBut _ _ c1 (s₄ _ _ c4 (s₃.extBut _ _ c2 (s₂.extBut _ _ c3 (s₁.extBut _ _ c1 x))))) ⟨oe, s₅.extBut _ _ ez qe, ce⟩
theorem za_next {t t' : Bool} {z TI TO i1 i2 l1 l2 : Addr} {k1 k2 : Nat} {xs ys : Array Value} {x y a b : Value} {Q : Option Value → Shared → Prop} (D : ZipApart z TI TO i1 i2 l1 l2)
    (hz : IsZip s.heap z TI TO .none) (pI : IsPair s.heap TI (.ref i1) (.ref i2)) (pO : IsPair s.heap TO a b) (g1 : KI t s.heap i1 l1 k1) (g2 : KI t' s.heap i2 l2 k2) (o1 : KO t s.heap l1 xs) (o2 : KO t' s.heap l2 ys) (ex : xs[k1]? = some x) (ey : ys[k2]? = some y)
    (hQ : ∀ h', IsZip h' z TI TO (rawInt s.heap.objs.size) → IsPair h' TO x y → KI t h' i1 l1 (k1 + 1) → KI t' h' i2 l2 (k2 + 1) → IsPair h' s.heap.objs.size x y → h'.objs.size = s.heap.objs.size + 1 → Stay z TO i1 i2 s.heap h' → Q (some (.ref s.heap.objs.size)) { s with heap := h' }) :
    wpAny (model prog w) A (pyNext (.ref z)) Q E s := by
  have T : s.TypeIs (.ref z) "zip" := ⟨_, hz, rfl⟩
  unfold pyNext
  exact wpAny_bind (wpAny_attempt (wpAny_callSpecial?_slot (name := Str.ofString "__next__") T F.slot_zip_next (wpAny_call_entry F.slot_zip_next T F.entry_zip_next (za_item D hz pI pO g1 g2 o1 o2 ex ey fun h' a1 a2 a3 a4 a5 a6 a7 => wpAny_pure (hQ h' a1 a2 a3 a4 a5 a6 a7)) (F.args_zip_next_1 _))))
theorem za_stop {t t' : Bool} {z TI TO i1 i2 l1 l2 : Addr} {k1 k2 : Nat} {xs ys : Array Value} {a b : Value} {Q : Option Value → Shared → Prop} (hh : A.handled = none) (D : ZipApart z TI TO i1 i2 l1 l2)
    (hz : IsZip s.heap z TI TO .none) (pI : IsPair s.heap TI (.ref i1) (.ref i2)) (pO : IsPair s.heap TO a b) (g1 : KI t s.heap i1 l1 k1) (g2 : KI t' s.heap i2 l2 k2) (o1 : KO t s.heap l1 xs) (o2 : KO t' s.heap l2 ys) (he : xs[k1]? = none ∨ ys[k2]? = none)
    (hQ : ∀ h', Stay z TO i1 i2 s.heap h' → Q none { s with heap := h' }) : wpAny (model prog w) A (pyNext (.ref z)) Q E s := by
  have T : s.TypeIs (.ref z) "zip" := ⟨_, hz, rfl⟩
  unfold pyNext
  refine wpAny_bind (wpAny_attempt (wpAny_callSpecial?_slot (name := Str.ofString "__next__") T F.slot_zip_next (wpAny_call_entry F.slot_zip_next T F.entry_zip_next (za_end hh D hz pI pO g1 g2 o1 o2 he fun h' e hk he => ?_) (F.args_zip_next_1 _))))
  obtain ⟨o, ho, hc⟩ := he
  exact wpAny_bind (wpAny_isInstance (T := "StopIteration") (b := true) ⟨o, ho, hc⟩ isSubtype_stop (wpAny_pure (hQ _ hk)))
end
abbrev zaH1 (t : Bool) (h : Heap) (l1 : Addr) : Heap := h.push { cls := .type (KN t), data := .fields #[.ref l1, .int 0 0] }
abbrev zaH2 (t t' : Bool) (h : Heap) (l1 l2 : Addr) : Heap := (zaH1 t h l1).push { cls := .type (KN t'), data := .fields #[.ref l2, .int 0 0] }
abbrev zaH3 (t t' : Bool) (h : Heap) (l1 l2 : Addr) : Heap := (zaH2 t t' h l1 l2).push { cls := .type "tuple", data := .seq #[.ref h.objs.size, .ref (zaH1 t h l1).objs.size] }
abbrev zaH4 (t t' : Bool) (h : Heap) (l1 l2 : Addr) : Heap := (zaH3 t t' h l1 l2).push { cls := .type "tuple", data := .seq #[.none, .none] }
abbrev zaH5 (t t' : Bool) (h : Heap) (l1 l2 : Addr) : Heap := (zaH4 t t' h l1 l2).push { cls := .type "zip", data := .fields #[.none, .bool false, .bool false, .ref (zaH2 t t' h l1 l2).objs.size, .ref (zaH3 t t' h l1 l2).objs.size] }
theorem KO.push {t : Bool} {h : Heap} {l : Addr} {xs : Array Value} (x : KO t h l xs) (o : Obj) : KO t (h.push o) l xs := by
  cases t with
  | false => exact Heap.IsList.push x _
  | true => exact Heap.IsTuple.push x _
theorem meets_za (t t' : Bool) (l1 l2 : Addr) (xs ys : Array Value) :
    Meets (Builtin.«zip.__new__» ⟨[.type "zip", .ref l1, .ref l2], []⟩) (fun _ R s => KO t s.heap l1 xs ∧ KO t' s.heap l2 ys ∧ R (.ok (.ret (.ref (zaH4 t t' s.heap l1 l2).objs.size))) { s with heap := zaH5 t t' s.heap l1 l2 }) :=
  .of_wp fun prog w A R s h => by
    obtain ⟨hp, g, d, tk, os⟩ := s
    obtain ⟨a1, a2, h⟩ := h
    have hsub := PySem.sub_zip
    have b1 : KO t (Shared.heap ⟨hp, g, d, tk, os⟩) l1 xs := a1
    have b2 : KO t' (Shared.heap ⟨hp.push { cls := .type (KN t), data := .fields #[.ref l1, .int 0 0] }, g, d, tk, os⟩) l2 ys := KO.push a2 _
    cases t <;> cases t'
    · have c1 : Heap.IsList (Shared.heap ⟨hp, g, d, tk, os⟩) l1 xs := b1
      have c2 : Heap.IsList (Shared.heap ⟨hp.push { cls := .type "list_iterator", data := .fields #[.ref l1, .int 0 0] }, g, d, tk, os⟩) l2 ys := b2
      wp_walk using wpAny_pyIter_list c1, wpAny_pyIter_list c2
      exact ⟨_, rfl, h⟩
    · have c1 : Heap.IsList (Shared.heap ⟨hp, g, d, tk, os⟩) l1 xs := b1
      have c2 : Heap.IsTuple (Shared.heap ⟨hp.push { cls := .type "list_iterator", data := .fields #[.ref l1, .int 0 0] }, g, d, tk, os⟩) l2 ys := b2
      wp_walk using wpAny_pyIter_list c1, wpAny_pyIter_tuple c2
      exact ⟨_, rfl, h⟩
    · have c1 : Heap.IsTuple (Shared.heap ⟨hp, g, d, tk, os⟩) l1 xs := b1
      have c2 : Heap.IsList (Shared.heap ⟨hp.push { cls := .type "tuple_iterator", data := .fields #[.ref l1, .int 0 0] }, g, d, tk, os⟩) l2 ys := b2
      wp_walk using wpAny_pyIter_tuple c1, wpAny_pyIter_list c2
      exact ⟨_, rfl, h⟩
    · have c1 : Heap.IsTuple (Shared.heap ⟨hp, g, d, tk, os⟩) l1 xs := b1
      have c2 : Heap.IsTuple (Shared.heap ⟨hp.push { cls := .type "tuple_iterator", data := .fields #[.ref l1, .int 0 0] }, g, d, tk, os⟩) l2 ys := b2
      wp_walk using wpAny_pyIter_tuple c1, wpAny_pyIter_tuple c2
      exact ⟨_, rfl, h⟩
theorem ki_new {t : Bool} {h : Heap} {a l : Addr} (e : h.get? a = some { cls := .type (KN t), data := .fields #[.ref l, .int 0 0] }) : KI t h a l 0 := by
  cases t with
  | false => exact ⟨_, e, rfl, rfl⟩
  | true => exact ⟨_, e, rfl, rfl⟩
section
variable {prog : Program} {w : World} {A : Around} {E : Value → Shared → Prop} {s : Shared}
theorem call_za {t t' : Bool} {l1 l2 : Addr} {xs ys : Array Value} {Q : Value → Shared → Prop} (a1 : KO t s.heap l1 xs) (a2 : KO t' s.heap l2 ys)
    (h : ∀ h', IsZip h' (s.heap.objs.size + 4) (s.heap.objs.size + 2) (s.heap.objs.size + 3) .none → IsPair h' (s.heap.objs.size + 2) (.ref s.heap.objs.size) (.ref (s.heap.objs.size + 1)) → IsPair h' (s.heap.objs.size + 3) .none .none → KI t h' s.heap.objs.size l1 0 → KI t' h' (s.heap.objs.size + 1) l2 0 →
      (∀ c o, s.heap.get? c = some o → h'.get? c = some o) → Q (.ref (s.heap.objs.size + 4)) { s with heap := h' }) : wpAny (model prog w) A (call (.type "zip") [.ref l1, .ref l2]) Q E s := by
  refine callType_new F.called_zip (by decide) (F.typeCall_zip_2 _ _) (F.newCall_zip_2 _ _) (fun obj => F.args_object_init_3 obj _ _) F.entry_zip_new (meets_za t t' l1 l2 xs ys) ⟨a1, a2, ?_⟩
  have z1 : (zaH1 t s.heap l1).objs.size = s.heap.objs.size + 1 := Heap.size_push ..
  have z2 : (zaH2 t t' s.heap l1 l2).objs.size = s.heap.objs.size + 2 := by rw [Heap.size_push, z1]
  have z3 : (zaH3 t t' s.heap l1 l2).objs.size = s.heap.objs.size + 3 := by rw [Heap.size_push, z2]
  have z4 : (zaH4 t t' s.heap l1 l2).objs.size = s.heap.objs.size + 4 := by rw [Heap.size_push, z3]
  have g5 : (zaH5 t t' s.heap l1 l2).get? (zaH4 t t' s.heap l1 l2).objs.size = some _ := Heap.get?_push_size _ rfl
  have g4 : (zaH5 t t' s.heap l1 l2).get? (zaH3 t t' s.heap l1 l2).objs.size = some _ := Heap.get?_push_of_some _ (Heap.get?_push_size _ rfl)
  have g3 : (zaH5 t t' s.heap l1 l2).get? (zaH2 t t' s.heap l1 l2).objs.size = some _ := Heap.get?_push_of_some _ (Heap.get?_push_of_some _ (Heap.get?_push_size _ rfl))
  have g2 : (zaH5 t t' s.heap l1 l2).get? (zaH1 t s.heap l1).objs.size = some _ := Heap.get?_push_of_some _ (Heap.get?_push_of_some _ (Heap.get?_push_of_some _ (Heap.get?_push_size _ rfl)))
  have g1 : (zaH5 t t' s.heap l1 l2).get? s.heap.objs.size = some _ := Heap.get?_push_of_some _ (Heap.get?_push_of_some _ (Heap.get?_push_of_some _ (Heap.get?_push_of_some _ (Heap.get?_push_size _ rfl))))
  show _ ∧ _
  rw [z2, z3, z4] at g5
  rw [z1, z2] at g3
  rw [z3] at g4
  rw [z1] at g2
  rw [z4]
  exact ⟨⟨_, g5, rfl⟩, h _ g5 g3 g4 (ki_new g1) (ki_new g2) fun c o x => Heap.get?_push_of_some _ (Heap.get?_push_of_some _ (Heap.get?_push_of_some _ (Heap.get?_push_of_some _ (Heap.get?_push_of_some _ x))))⟩
end
/-! over the hand layer -/
def SqK : Bool → PySem.W.Frag → Hp → Addr → List V → Prop
  | false, K, H, a, xs => SqL K H a xs
  | true, K, H, a, xs => SqT K H a xs
theorem SqK.fact {X : Cx} {pins : List (Addr × Obj)} {σ : L2.St} {H : Hp} {s : Shared} (I : Inv X pins σ H s) {t : Bool} {a : Addr} {xs : List V} (h : SqK t X.K H a xs) : ∃ its : List Value, Vals xs its ∧ KO t s.heap a its.toArray := by
  cases t with
  | false => obtain ⟨its, r, p, _⟩ := I.list h; exact ⟨its, r, p.isList⟩
  | true => obtain ⟨its, r, p, _⟩ := I.tuple h; exact ⟨its, r, p⟩
theorem SqK.inj {X : Cx} {pins : List (Addr × Obj)} {σ : L2.St} {H : Hp} {s : Shared} (I : Inv X pins σ H s) {t : Bool} {a : Addr} {xs ys : List V} (h : SqK t X.K H a xs) (g : SqK t X.K H a ys) : xs = ys := by
  cases t with
  | false => exact I.list_inj h g
  | true => exact I.tuple_inj h g
def ItzA (K : PySem.W.Frag) (t t' : Bool) (a b : Addr) : It :=
  ⟨fun i H => ∃ (xs ys : List V) (x y : V), SqK t K H a xs ∧ SqK t' K H b ys ∧ xs[i]? = some x ∧ ys[i]? = some y,
    fun i H v H' => ∃ (T : Addr) (ob : Obj) (x y : V), v = .ref T ∧ H T = none ∧ ob.dict = none ∧ H' = upd H T (.frz ob (.tup [x, y])) ∧ (∀ xs, SqK t K H a xs → xs[i]? = some x) ∧ ∀ ys, SqK t' K H b ys → ys[i]? = some y,
    fun i H => ∃ xs ys : List V, SqK t K H a xs ∧ SqK t' K H b ys ∧ (xs.length ≤ i ∨ ys.length ≤ i)⟩
theorem turn_za {P : Program} {w : World} {K : PySem.W.Frag} {t t' : Bool} {elts : List Expr} {kk : Nat} {tpos : Pos} {a b z TI TO i1 i2 : Addr} (D : ZipApart z TI TO i1 i2 a b) :
    Turn P w K (.Tuple elts kk tpos) (ItzA K t t' a b) [z, TI, TO, i1, i2] z (fun i h => IsZip h z TI TO .none ∧ IsPair h TI (.ref i1) (.ref i2) ∧ (∃ x y, IsPair h TO x y) ∧ KI t h i1 a i ∧ KI t' h i2 b i) := by
  refine ⟨by simp, fun i h st c hc => ?_, fun i h h' st k => ?_, ?_, ?_, fun A i s Q E st h => wpAny_pyIter_zip st.1 h⟩
  · obtain ⟨sz, sI, ⟨x, y, sO⟩, s1, s2⟩ := st
    have c5 : c = z ∨ c = TI ∨ c = TO ∨ c = i1 ∨ c = i2 := by simpa using hc
    rcases c5 with rfl | rfl | rfl | rfl | rfl
    · exact ⟨_, sz, fun v q => nomatch q⟩
    · exact ⟨_, sI, fun v q => nomatch q⟩
    · exact ⟨_, sO, fun v q => nomatch q⟩
    · exact s1.ob
    · exact s2.ob
  · obtain ⟨sz, sI, ⟨x, y, sO⟩, s1, s2⟩ := st
    exact ⟨k z (by simp) _ sz, k TI (by simp) _ sI, ⟨x, y, k TO (by simp) _ sO⟩, s1.mv fun o q => k i1 (by simp) o q, s2.mv fun o q => k i2 (by simp) o q⟩
  · intro X eP ew eK hc i pins s σ H E I hf st hg
    cases eP
    cases ew
    cases eK
    obtain ⟨sz, sI, ⟨x0, y0, sO⟩, s1, s2⟩ := st
    obtain ⟨xs, ys, x, y, qx, qy, ex, ey⟩ := hg
    obtain ⟨us, ru, pu⟩ := SqK.fact I qx
    obtain ⟨ws, rw', pw⟩ := SqK.fact I qy
    obtain ⟨u, eu, ru1⟩ := ru.get ex
    obtain ⟨v, ev, rv1⟩ := rw'.get ey
    have lz : z < s.heap.objs.size := Heap.lt_size sz
    refine za_next D sz sI sO s1 s2 pu pw (x := u) (y := v) (by simpa using eu) (by simpa using ev) fun h1 z1 O1 t1 t2 nT nsz kp => ?_
    refine ⟨_, rfl, wpAny_letOwnedTupleGo_zip (s := { s with heap := h1 }) z1 fun h2 z2 sb => ?_⟩
    have nT2 : h2.get? s.heap.objs.size = some { cls := .type "tuple", data := .seq #[u, v] } := (sb.2 _ (Nat.ne_of_gt lz)).trans nT
    have ok : ObjOk X.prog X.w (upd H s.heap.objs.size (.frz { cls := .type "tuple", data := .seq #[u, v] } (.tup [x, y]))) h2 s.heap.objs.size (.frz { cls := .type "tuple", data := .seq #[u, v] } (.tup [x, y])) :=
      ⟨nT2, (show 2 ≤ sizeLine by decide), [u, v], .cons ru1 (.cons rv1 .nil), ⟨_, nT2, rfl, _, rfl⟩⟩
    have all5 : ∀ c o, c ∉ [z, TI, TO, i1, i2] → s.heap.get? c = some o → h2.get? c = some o := fun c o nb q => by
      have n5 : c ≠ z ∧ c ≠ TI ∧ c ≠ TO ∧ c ≠ i1 ∧ c ≠ i2 := by simpa using nb
      exact (sb.2 c n5.1).trans (kp c o n5.1 n5.2.2.1 n5.2.2.2.1 n5.2.2.2.2 q)
    have I1 : Inv X pins σ (upd H s.heap.objs.size (.frz { cls := .type "tuple", data := .seq #[u, v] } (.tup [x, y]))) { s with heap := h2 } :=
      I.turnedNew (t' := s.toks) (ch := [z, TI, TO, i1, i2]) all5 hf (Nat.le_refl _) ok
    refine ⟨.ref s.heap.objs.size, _, I1, rfl, ⟨_, _, x, y, rfl, I.hok.fresh (Nat.le_refl _), rfl, rfl, fun l hl => by rw [SqK.inj I hl qx]; exact ex, fun l hl => by rw [SqK.inj I hl qy]; exact ey⟩, ⟨z2, ?_, ⟨u, v, ?_⟩, ?_, ?_⟩, fun c hcm => ?_⟩
    · exact (sb.2 _ D.TIz).trans (kp _ _ D.TIz D.TITO D.TIi1 D.TIi2 sI)
    · exact (sb.2 _ D.TOz).trans O1
    · exact t1.mv fun o q => (sb.2 _ D.i1z).trans q
    · exact t2.mv fun o q => (sb.2 _ D.i2z).trans q
    · have lt : c < s.heap.objs.size := by
        have c5 : c = z ∨ c = TI ∨ c = TO ∨ c = i1 ∨ c = i2 := by simpa using hcm
        rcases c5 with rfl | rfl | rfl | rfl | rfl
        · exact lz
        · exact Heap.lt_size sI
        · exact Heap.lt_size sO
        · exact s1.lt
        · exact s2.lt
      rw [upd_ne (Nat.ne_of_lt lt)]
      exact (hf c hcm).1
  · intro X eP ew eK hc i pins s σ H E I hf st hg
    cases eP
    cases ew
    cases eK
    obtain ⟨sz, sI, ⟨x0, y0, sO⟩, s1, s2⟩ := st
    obtain ⟨xs, ys, qx, qy, hend⟩ := hg
    obtain ⟨us, ru, pu⟩ := SqK.fact I qx
    obtain ⟨ws, rw', pw⟩ := SqK.fact I qy
    have l1 := ru.length
    have l2 := rw'.length
    have he : us.toArray[i]? = none ∨ ws.toArray[i]? = none := by
      rcases hend with q | q
      · exact .inl (by simp; omega)
      · exact .inr (by simp; omega)
    exact za_stop (I.ok.hd hc) D sz sI sO s1 s2 pu pw he fun h' hk => ⟨rfl, I.turnedL (t' := s.toks) (ch := [z, TI, TO, i1, i2]) (fun c o hb q => by
      have n5 : c ≠ z ∧ c ≠ TI ∧ c ≠ TO ∧ c ≠ i1 ∧ c ≠ i2 := by simpa using hb
      exact hk c o n5.1 n5.2.2.1 n5.2.2.2.1 n5.2.2.2.2 q) hf⟩
theorem pi_za {X : Cx} {e e2 : Expr} {ta : TA} {p pos tpos : Pos} {elts : List Expr} {kk : Nat} (hg : Gl X "zip") (hm : X.mg "zip" = none) (ha : PA X [e, e2] ta)
    (hs : starEach [e, e2] X.env = (false, eval e X.env) :: starEach [e2] X.env) (hpl : (backTo pos (starEach [e2] X.env)).any (·.1) = false) :
    PI X (.Tuple elts kk tpos) (.Call (.Name "zip" p) [e, e2] [] pos) (fun σ H R => ta σ H fun vs H1 => ∃ t t' a b xs ys, vs = [.ref a, .ref b] ∧ SqK t X.kw H1 a xs ∧ SqK t' X.kw H1 b ys ∧ R (ItzA X.kw t t' a b) H1) := by
  refine ⟨fun pins s σ H R I h => Call_ (ld_blt I hg hm PyProof.Rows.boot_zip (PyProof.Rows.callWith_type1 (thn (ha.run pos pins s σ H _ I h) fun us s1 hh => ?_) hs hpl))⟩
  obtain ⟨vs, H1, I1, r1, t, t', a, b, xs, ys, ex, qx, qy, q⟩ := hh
  subst ex
  obtain ⟨u, w, eu, ra, rb⟩ := vals2 r1
  subst eu
  cases ra
  cases rb
  obtain ⟨ls, _, pa⟩ := SqK.fact I1 qx
  obtain ⟨ms, _, pb⟩ := SqK.fact I1 qy
  refine call_za pa pb fun h' z1 z2 z3 z4 z5 zk => wpAny_pyIter_zip z1 ?_
  have I2 : Inv X pins σ H1 { s1 with heap := h' } := I1.kept (t' := s1.toks) zk
  refine ⟨_, [s1.heap.objs.size + 4, s1.heap.objs.size + 2, s1.heap.objs.size + 3, s1.heap.objs.size, s1.heap.objs.size + 1], _, _, H1, rfl, I2, turn_za (t := t) (t' := t') (PySem.W.ktu_apart s1.heap.objs.size a b pa.lt pb.lt), ⟨z1, z2, ⟨_, _, z3⟩, z4, z5⟩, fun c hcm => ?_, q⟩
  have le : s1.heap.objs.size ≤ c := by
    have c5 : c = s1.heap.objs.size + 4 ∨ c = s1.heap.objs.size + 2 ∨ c = s1.heap.objs.size + 3 ∨ c = s1.heap.objs.size ∨ c = s1.heap.objs.size + 1 := by simpa using hcm
    rcases c5 with rfl | rfl | rfl | rfl | rfl
    · exact Nat.le_add_right _ _
    · exact Nat.le_add_right _ _
    · exact Nat.le_add_right _ _
    · exact Nat.le_refl _
    · exact Nat.le_add_right _ _
  exact I1.fpOk le (I1.hok.fresh le)
end Z

set_option Elab.async false
set_option linter.all false
set_option maxRecDepth 100000
set_option maxHeartbeats 4000000
/-! Ev5: what is walked; list comprehensions. -/
namespace Z
open PySem L2 PySem.Spec PyProof.Rows

section
variable {K : KW} {al : Nat → Addr} {n : Nat} {U U' : List Addr} {H H' : Hp} {S : Store}
/-- more, other addresses that may change -/
theorem Off.widen {a : Addr} {o : HO} (h : Off al n U a) (e : H a = some o) (hu : ∀ u ∈ U', u ∈ U ∨ H u = none) : Off al n U' a :=
  ⟨h.1, fun hm => (hu a hm).elim h.2 fun z => by rw [e] at z; cases z⟩
theorem Rd.some {a : Addr} {u : HO} (h : Rd H a u) : ∃ o, H a = some o := by
  rcases h with h | ⟨ob, h⟩
  · exact ⟨_, h⟩
  · exact ⟨_, h⟩
theorem TupAt.widen {a : Addr} {xs : List V} (h : TupAt K al n U H a xs) (hu : ∀ u ∈ U', u ∈ U ∨ H u = none) : TupAt K al n U' H a xs := by
  rcases h with ⟨h, o⟩ | h
  · obtain ⟨ob, e, _⟩ := id h
    exact .inl ⟨h, o.widen e hu⟩
  · exact .inr h
theorem LstAt.widen {a : Addr} {xs : List V} (h : LstAt K al n U H a xs) (hu : ∀ u ∈ U', u ∈ U ∨ H u = none) : LstAt K al n U' H a xs := by
  rcases h with ⟨h, o⟩ | h
  · obtain ⟨ob, e⟩ := Rd.some h
    exact .inl ⟨h, o.widen e hu⟩
  · exact .inr h
mutual
theorem Rep.widen (hu : ∀ u ∈ U', u ∈ U ∨ H u = none) : ∀ (d : D) (v : V), Rep K al n U H d v → Rep K al n U' H d v
  | .non, v, h => by simp only [Rep] at h ⊢; exact h
  | .bl b, v, h => by simp only [Rep] at h ⊢; exact h
  | .int i, v, h => by simp only [Rep] at h ⊢; exact h
  | .str s, v, h => by simp only [Rep] at h ⊢; exact h
  | .tup ds, v, h => by
    simp only [Rep] at h ⊢
    obtain ⟨a, vs, e, t, l, r⟩ := h
    exact ⟨a, vs, e, t.widen hu, l, Reps.widen hu ds vs r⟩
  | .lst ds, v, h => by
    simp only [Rep] at h ⊢
    obtain ⟨a, vs, e, t, l, r⟩ := h
    exact ⟨a, vs, e, t.widen hu, l, Reps.widen hu ds vs r⟩
  | .ref i, v, h => by simp only [Rep] at h ⊢; exact h
  | .fn _, v, h => by simp only [Rep] at h ⊢; exact h
theorem Reps.widen (hu : ∀ u ∈ U', u ∈ U ∨ H u = none) : ∀ (ds : List D) (vs : List V), Reps K al n U H ds vs → Reps K al n U' H ds vs
  | [], vs, h => by simp only [Reps] at h ⊢; exact h
  | d :: ds, vs, h => by
    simp only [Reps] at h ⊢
    obtain ⟨v, r, e, h1, h2⟩ := h
    exact ⟨v, r, e, Rep.widen hu d v h1, Reps.widen hu ds r h2⟩
end
theorem ObjRep.widen (hu : ∀ u ∈ U', u ∈ U ∨ H u = none) {a : Addr} {o : O} (h : ObjRep K al n U H a o) : ObjRep K al n U' H a o := by
  cases o with
  | lst ds => obtain ⟨vs, q, l, r⟩ := h; exact ⟨vs, q, l, Reps.widen hu _ _ r⟩
  | dct ks vs => obtain ⟨kvs, q, l, r, s, t, w⟩ := h; exact ⟨kvs, q, l, r, Reps.widen hu _ _ s, t, w⟩
  | dcn ks vs => obtain ⟨xs, bs, us, q, l, r, s⟩ := h; exact ⟨xs, bs, us, q, l, Reps.widen hu _ _ r, Reps.widen hu _ _ s⟩
/-- a change at an address that may change -/
theorem TupAt.touch {a : Addr} {xs : List V} (h : TupAt K al n U H a xs) (hx : ∀ a o, H a = some o → a ∉ U → H' a = some o) : TupAt K al n U H' a xs := by
  rcases h with ⟨⟨ob, h, hd⟩, o⟩ | h
  · exact .inl ⟨⟨ob, hx _ _ h o.2, hd⟩, o⟩
  · exact .inr h
theorem LstAt.touch {a : Addr} {xs : List V} (h : LstAt K al n U H a xs) (hx : ∀ a o, H a = some o → a ∉ U → H' a = some o) : LstAt K al n U H' a xs := by
  rcases h with ⟨h, o⟩ | h
  · refine .inl ⟨?_, o⟩
    rcases h with h | ⟨ob, h⟩
    · exact .inl (hx _ _ h o.2)
    · exact .inr ⟨ob, hx _ _ h o.2⟩
  · exact .inr h
mutual
theorem Rep.touch (hx : ∀ a o, H a = some o → a ∉ U → H' a = some o) : ∀ (d : D) (v : V), Rep K al n U H d v → Rep K al n U H' d v
  | .non, v, h => by simp only [Rep] at h ⊢; exact h
  | .bl b, v, h => by simp only [Rep] at h ⊢; exact h
  | .int i, v, h => by simp only [Rep] at h ⊢; exact h
  | .str s, v, h => by simp only [Rep] at h ⊢; exact h
  | .tup ds, v, h => by
    simp only [Rep] at h ⊢
    obtain ⟨a, vs, e, t, l, r⟩ := h
    exact ⟨a, vs, e, t.touch hx, l, Reps.touch hx ds vs r⟩
  | .lst ds, v, h => by
    simp only [Rep] at h ⊢
    obtain ⟨a, vs, e, t, l, r⟩ := h
    exact ⟨a, vs, e, t.touch hx, l, Reps.touch hx ds vs r⟩
  | .ref i, v, h => by simp only [Rep] at h ⊢; exact h
  | .fn _, v, h => by simp only [Rep] at h ⊢; exact h
theorem Reps.touch (hx : ∀ a o, H a = some o → a ∉ U → H' a = some o) : ∀ (ds : List D) (vs : List V), Reps K al n U H ds vs → Reps K al n U H' ds vs
  | [], vs, h => by simp only [Reps] at h ⊢; exact h
  | d :: ds, vs, h => by
    simp only [Reps] at h ⊢
    obtain ⟨v, r, e, h1, h2⟩ := h
    exact ⟨v, r, e, Rep.touch hx d v h1, Reps.touch hx ds r h2⟩
end
theorem SR.touch (h : SR K al U S H) {p : Addr} {o : HO} (hp : p ∈ U) : SR K al U S (upd H p o) := by
  have hx : ∀ a ob, H a = some ob → a ∉ U → upd H p o a = some ob := fun a ob e hn => by
    have hne : a ≠ p := fun z => hn (by rw [z]; exact hp)
    rw [upd_ne hne]
    exact e
  refine ⟨h.inj, h.off, fun a ha e => ?_, fun i ob e => ?_⟩
  · by_cases q : a = p
    · subst q; rw [upd_same] at e; cases e
    · rw [upd_ne q] at e; exact h.liv a ha e
  · have hi : i < S.length := by
      obtain ⟨q, _⟩ := List.getElem?_eq_some_iff.mp e
      exact q
    have hne : al i ≠ p := fun z => h.off i hi (by rw [z]; exact hp)
    have q := h.obj i ob e
    cases ob with
    | lst ds => obtain ⟨vs, q, l, r⟩ := q; exact ⟨vs, (upd_ne hne).trans q, l, Reps.touch hx _ _ r⟩
    | dct ks vs => obtain ⟨kvs, q, l, r, s, t, w⟩ := q; exact ⟨kvs, (upd_ne hne).trans q, l, r, Reps.touch hx _ _ s, t, w⟩
    | dcn ks vs => obtain ⟨xs, bs, us, q, l, r, s⟩ := q; exact ⟨xs, bs, us, (upd_ne hne).trans q, l, Reps.touch hx _ _ r, Reps.touch hx _ _ s⟩
/-- a new address that may change -/
theorem SR.fresh1 (h : SR K al U S H) {p : Addr} (hp : H p = none) (o : HO) : SR K al (p :: U) S (upd H p o) := by
  obtain ⟨n1, s1⟩ := h.lay hp o
  refine ⟨s1.inj, fun i hi hm => ?_, fun a ha e => ?_, fun i ob e => ?_⟩
  · rcases List.mem_cons.mp hm with z | z
    · exact h.at_ hi (by rw [z]; exact hp)
    · exact s1.off i hi z
  · rcases List.mem_cons.mp ha with z | z
    · subst z; rw [upd_same] at e; cases e
    · exact s1.liv a z e
  · have hi : i < S.length := by
      obtain ⟨q, _⟩ := List.getElem?_eq_some_iff.mp e
      exact q
    have hne : al i ≠ p := fun z => h.at_ hi (by rw [z]; exact hp)
    have hu : ∀ u ∈ p :: U, u ∈ U ∨ H u = none := fun u hm => (List.mem_cons.mp hm).elim (fun z => .inr (by rw [z]; exact hp)) .inl
    exact ((h.obj i ob e).widen hu).nxt n1 (upd_ne hne)
theorem SR.less (h : SR K al U S H) (hu : ∀ u ∈ U', u ∈ U) : SR K al U' S H :=
  ⟨h.inj, fun i hi hm => h.off i hi (hu _ hm), fun a ha => h.liv a (hu a ha), fun i o e => (h.obj i o e).widen fun u hm => .inl (hu u hm)⟩
/-- an address that may change becomes an object of the store -/
theorem SR.adopt {p : Addr} (h : SR K al (p :: U) S H) (hU : p ∉ U) {o : O} (ho : ∀ g : ∀ (ds : List D) (vs : List V), Reps K al S.length (p :: U) H ds vs → Reps K (ext1 al S.length p) (S.length + 1) U H ds vs, ObjRep K (ext1 al S.length p) (S.length + 1) U H p o) :
    SR K (ext1 al S.length p) U (S ++ [o]) H ∧ ext1 al S.length p S.length = p := by
  have hl : (S ++ [o]).length = S.length + 1 := by simp
  have e1 : ext1 al S.length p S.length = p := if_pos rfl
  have e2 : ∀ i, i < S.length → ext1 al S.length p i = al i := fun i hi => if_neg (by omega)
  have off : ∀ a, Off al S.length (p :: U) a → Off (ext1 al S.length p) (S.length + 1) U a := fun a hf => by
    refine ⟨fun i hi => ?_, fun hm => hf.2 (List.mem_cons_of_mem _ hm)⟩
    by_cases q : i < S.length
    · rw [e2 i q]; exact hf.1 i q
    · have : i = S.length := by omega
      subst this
      rw [e1]
      exact fun z => hf.2 (z ▸ List.mem_cons_self)
  have tup : ∀ a xs, TupAt K al S.length (p :: U) H a xs → TupAt K (ext1 al S.length p) (S.length + 1) U H a xs := fun a xs t => by
    rcases t with ⟨t, f⟩ | t
    · exact .inl ⟨t, off a f⟩
    · exact .inr t
  have reps : ∀ (m : Nat), (∀ d v, sizeOf d < m → Rep K al S.length (p :: U) H d v → Rep K (ext1 al S.length p) (S.length + 1) U H d v) ∧ (∀ ds vs, sizeOf ds < m → Reps K al S.length (p :: U) H ds vs → Reps K (ext1 al S.length p) (S.length + 1) U H ds vs) := by
    intro m
    induction m with
    | zero => exact ⟨fun _ _ h => absurd h (Nat.not_lt_zero _), fun _ _ h => absurd h (Nat.not_lt_zero _)⟩
    | succ m ih =>
      refine ⟨fun d v hd r => ?_, fun ds vs hd r => ?_⟩
      · cases d with
        | tup ds =>
          simp only [Rep] at r ⊢
          obtain ⟨a, vs, e, t, l, r⟩ := r
          exact ⟨a, vs, e, tup _ _ t, l, ih.2 ds vs (by simp at hd; omega) r⟩
        | lst ds =>
          simp only [Rep] at r ⊢
          obtain ⟨a, vs, e, t, l, r⟩ := r
          exact ⟨a, vs, e, t.elim (fun t => .inl ⟨t.1, off _ t.2⟩) .inr, l, ih.2 ds vs (by simp at hd; omega) r⟩
        | ref i =>
          simp only [Rep] at r ⊢
          exact ⟨by omega, by rw [e2 i r.1]; exact r.2⟩
        | non => simp only [Rep] at r ⊢; exact r
        | bl _ => simp only [Rep] at r ⊢; exact r
        | int _ => simp only [Rep] at r ⊢; exact r
        | str _ => simp only [Rep] at r ⊢; exact r
        | fn _ => simp only [Rep] at r ⊢; exact r
      · cases ds with
        | nil => simp only [Reps] at r ⊢; exact r
        | cons d ds =>
          simp only [Reps] at r ⊢
          obtain ⟨v, r', e, h1, h2⟩ := r
          exact ⟨v, r', e, ih.1 d v (by simp at hd; omega) h1, ih.2 ds r' (by simp at hd; omega) h2⟩
  have reps' : ∀ (ds : List D) (vs : List V), Reps K al S.length (p :: U) H ds vs → Reps K (ext1 al S.length p) (S.length + 1) U H ds vs := fun ds vs r => (reps (sizeOf ds + 1)).2 ds vs (Nat.lt_succ_self _) r
  refine ⟨⟨fun i j hi hj e => ?_, fun i hi => ?_, fun a ha => h.liv a (List.mem_cons_of_mem _ ha), fun i ob e => ?_⟩, e1⟩
  · rw [hl] at hi hj
    have np : ∀ k, k < S.length → al k ≠ p := fun k hk z => h.off k hk (z ▸ List.mem_cons_self)
    by_cases h1 : i < S.length <;> by_cases h2 : j < S.length
    · rw [e2 i h1, e2 j h2] at e; exact h.inj i j h1 h2 e
    · have : j = S.length := by omega
      subst this
      rw [e2 i h1, e1] at e
      exact absurd e (np i h1)
    · have : i = S.length := by omega
      subst this
      rw [e2 j h2, e1] at e
      exact absurd e.symm (np j h2)
    · omega
  · rw [hl] at hi
    by_cases h1 : i < S.length
    · rw [e2 i h1]; exact fun hm => h.off i h1 (List.mem_cons_of_mem _ hm)
    · have : i = S.length := by omega
      subst this
      rw [e1]
      exact hU
  · rw [hl]
    by_cases h1 : i < S.length
    · rw [List.getElem?_append_left h1] at e
      rw [e2 i h1]
      have q := h.obj i ob e
      cases ob with
      | lst ds => obtain ⟨vs, q, l, r⟩ := q; exact ⟨vs, q, l, reps' _ _ r⟩
      | dct ks vs => obtain ⟨kvs, q, l, r, s, t, w⟩ := q; exact ⟨kvs, q, l, r, reps' _ _ s, t, w⟩
      | dcn ks vs => obtain ⟨xs, bs, us, q, l, r, s⟩ := q; exact ⟨xs, bs, us, q, l, reps' _ _ r, reps' _ _ s⟩
    · have hi : i = S.length := by
        obtain ⟨q, _⟩ := List.getElem?_eq_some_iff.mp e
        rw [hl] at q
        omega
      subst hi
      rw [List.getElem?_append_right (Nat.le_refl _)] at e
      simp at e
      subst e
      rw [e1]
      exact ho reps'
end

/-- {k: v} with a tuple for a key -/
theorem se_dcn1 {X : Cx} {a b : Expr} {pos : Pos} {fa fb : Env → Store → R (D × Store)} (hu : X.A.units + 64 < cLine) (ha : PE X a (tEv X.kw fa)) (hb : PE X b (tEv X.kw fb)) : PE X (.Dict [some a] [b] pos) (tEv X.kw fun rho S => (fa rho S).bind fun p => (fb rho p.2).bind fun q => match keyN p.1 with
    | some _ => .ok (.ref q.2.length, q.2 ++ [.dcn [p.1] [q.1]])
    | none => .bad) := by
  refine ⟨fun pins s σ H Q I h => ?_⟩
  obtain ⟨al, U, S, rho, d, S', sr, er, e, q⟩ := h
  obtain ⟨⟨d1, S1⟩, e1, e⟩ := R.bind_ok e
  obtain ⟨⟨d2, S2⟩, e2, e⟩ := R.bind_ok e
  simp only at e
  split at e
  · rename_i k ek
    cases e
    have hn := I.hok.fresh (Nat.le_refl s.heap.objs.size)
    have hs : (s.heap.objs.size == sysModules) = false := beq_eq_false_iff_ne.mpr (Ne.symm (Nat.ne_of_lt I.big))
    have hU : s.heap.objs.size ∉ U := fun hm => sr.liv _ hm hn
    have I1 := I.laid (a := s.heap.objs.size) (o := .ext (ndP X.w s.heap.objs.size [])) (h' := s.heap.push { cls := .type "dict", data := .dict #[] }) (t' := s.toks) (fun _ _ z => Heap.get?_push_of_some _ z) (Nat.le_refl _) (nd_ok ⟨_, #[], 0, Heap.get?_push_size _ rfl, ⟨rfl, rfl, rfl⟩, rfl, rfl⟩)
    have sr0 := sr.fresh1 hn (.ext (ndP X.w s.heap.objs.size []))
    have w0 : ∀ u ∈ s.heap.objs.size :: U, u ∈ U ∨ H u = none := fun u hm => (List.mem_cons.mp hm).elim (fun z => .inr (by rw [z]; exact hn)) .inl
    have n0 := (sr.lay hn (.ext (ndP X.w s.heap.objs.size []))).1
    have er0 : ER X.kw al S.length (s.heap.objs.size :: U) (upd H s.heap.objs.size (.ext (ndP X.w s.heap.objs.size []))) rho σ := ER.nxt ⟨er.1, fun i d z => let ⟨v, g1, g2⟩ := er.2 i d z; ⟨v, g1, Rep.widen w0 _ _ g2⟩⟩ n0
    have hp0 : upd H s.heap.objs.size (.ext (ndP X.w s.heap.objs.size [])) s.heap.objs.size = some (.ext (ndP X.w s.heap.objs.size [])) := upd_same
    generalize hH0 : upd H s.heap.objs.size (.ext (ndP X.w s.heap.objs.size [])) = H0 at I1 sr0 n0 er0 hp0
    have hP0 : s.heap.objs.size = s.heap.objs.size := rfl
    generalize hP : s.heap.objs.size = p at hn hs hU sr0 w0 n0 er0 hp0 hH0
    have npal : ∀ {alz : Nat → Addr} {Sz : Store} {Hz : Hp}, SR X.kw alz (p :: U) Sz Hz → ∀ j, j < Sz.length → p ≠ alz j := fun sz j hj z => sz.off j hj (by rw [← z]; exact List.mem_cons_self)
    rw [arm_eval_Dict, zip_pairTrees [some a] [b] X.env pos rfl rfl, dictDisplay_pairs (pairTrees [some a] [b] X.env pos) (fun z => by simp [pairTrees] at z) (show 1 < 17 by omega)]
    refine wpAny_bind (wpAny_standAt (wpAny_bind (wpAny_subDictH (knd := nestedKind X.prog X.w) (by show X.A.units + 8 < cLine; omega) (show 1 ≤ 15 by omega) ?_)))
    rw [hP]
    refine pairTrees_cons_walk (thn (ha.run pins _ σ H0 (fun v1 H1 => ∃ al1, Nxt al S.length H0 al1 S1.length H1 ∧ SR X.kw al1 (p :: U) S1 H1 ∧ Rep X.kw al1 S1.length (p :: U) H1 d1 v1) I1 ⟨al, _, S, rho, d1, S1, sr0, er0, e1, fun v1 H1 al1 n1 sr1 r1 => ⟨al1, n1, sr1, r1⟩⟩) fun u1 s1 hh1 => ?_)
    obtain ⟨x1, H1, I2, ru1, al1, n1, sr1, r1⟩ := hh1
    refine thn (hb.run pins s1 σ H1 (fun v2 H2 => ∃ al2, Nxt al1 S1.length H1 al2 S2.length H2 ∧ SR X.kw al2 (p :: U) S2 H2 ∧ Rep X.kw al2 S2.length (p :: U) H2 d2 v2) I2 ⟨al1, _, S1, rho, d2, S2, sr1, er0.nxt n1, e2, fun v2 H2 al2 n2 sr2 r2 => ⟨al2, n2, sr2, r2⟩⟩) fun u2 s2 hh2 => ?_
    obtain ⟨x2, H2, I3, ru2, al2, n2, sr2, r2⟩ := hh2
    refine pairTrees_nil_walk ?_
    have r1' := Rep.nxt n2 _ _ r1
    obtain ⟨bk, ex1, eu1, hkey⟩ := keyN_is I3 r1' ru1 ek
    subst ex1 eu1
    have hp1 : H1 p = some (.ext (ndP X.w p [])) := n1.ext _ _ hp0 (npal sr0)
    have hp2 : H2 p = some (.ext (ndP X.w p [])) := n2.ext _ _ hp1 (npal sr1)
    obtain ⟨o, es, ep, g1, g2, g3, g4⟩ := (show ObjOk X.prog X.w H2 s2.heap p (.ext (ndP X.w p [])) from I3.hok p _ hp2).1
    refine ⟨[(k, bk, u2)], ⟨rfl, rfl, hkey, trivial⟩, ⟨o, es, ep, g1, g2, g3, g4, fun x hx => (nomatch hx), List.nodup_nil⟩, fun h' tk dd' hs' => ?_⟩
    obtain ⟨o', es', ep', f1, f2, f3, f4, _, _⟩ := dd'
    have I4 : Inv X pins σ (upd H2 p (.ext (ndP X.w p [(k, bk, u2)]))) { s2 with heap := h', toks := tk } := d_write I3 (by rw [hp2]; exact True.intro) hs' ⟨o', f1⟩ (nd_ok ⟨o', es', ep', f1, f2, f3, f4⟩)
    have sr3 : SR X.kw al2 (p :: U) S2 (upd H2 p (.ext (ndP X.w p [(k, bk, u2)]))) := sr2.touch List.mem_cons_self
    have hx : ∀ a' o', H2 a' = some o' → a' ∉ p :: U → upd H2 p (.ext (ndP X.w p [(k, bk, u2)])) a' = some o' := fun a' o' z1 z2 => (upd_ne fun z3 => z2 (by rw [z3]; exact List.mem_cons_self)).trans z1
    obtain ⟨sa, ea⟩ := sr3.adopt hU (o := .dcn [d1] [d2]) fun gr => ⟨[(k, bk, u2)], [.ref bk], [x2], upd_same, ⟨hs, (by show 1 ≤ sizeLine; decide), by simp, by simp [ek], rfl, .cons ru2 .nil⟩,
      gr [d1] [.ref bk] (by simp only [Reps]; exact ⟨_, _, rfl, Rep.touch hx _ _ r1', rfl⟩), gr [d2] [x2] (by simp only [Reps]; exact ⟨_, _, rfl, Rep.touch hx _ _ r2, rfl⟩)⟩
    have e2' : ∀ i, i < S2.length → ext1 al2 S2.length p i = al2 i := fun i hi => if_neg (by omega)
    have n02 := sr1.trans (sr0.trans n0 n1) n2
    have nad : Nxt al S.length H (ext1 al2 S2.length p) (S2 ++ [O.dcn [d1] [d2]]).length (upd H2 p (.ext (ndP X.w p [(k, bk, u2)]))) := by
      refine ⟨fun a' o' z1 z2 => ?_, by simp only [List.length_append, List.length_singleton]; have := n02.le; omega, fun i hi => ?_, fun i h1 h2 => ?_⟩
      · rw [upd_ne (fun z3 => by rw [z3, hn] at z1; cases z1)]
        exact n02.ext _ _ z1 z2
      · rw [e2' i (Nat.lt_of_lt_of_le hi n02.le)]; exact n02.agr i hi
      · simp only [List.length_append, List.length_singleton] at h2
        by_cases hi : i < S2.length
        · rw [e2' i hi]; exact n02.new i h1 hi
        · have : i = S2.length := by omega
          subst this
          rw [ea]
          exact hn
    refine wpAny_pure ⟨.ref p, _, I4, rfl, q _ _ _ nad sa ?_⟩
    simp only [Rep]
    exact ⟨by simp, by rw [ea]⟩
  · cases e
/-! ### walks -/
def itemI : Itr → Nat → Store → Option D
  | .sq ds, i, _ => ds[i]?
  | .rf n, i, S => match S[n]? with
    | some (.lst ds) => ds[i]?
    | _ => none
def stI : Itr → Nat → Store → Prop
  | .sq ds, i, _ => ds.length ≤ i
  | .rf n, i, S => ∃ ds, S[n]? = some (.lst ds) ∧ ds.length ≤ i
def ItOk (K : KW) (U0 : List Addr) (al0 : Nat → Addr) (n0 : Nat) (H0 : Hp) (J : It) (it : Itr) : Prop := ∀ (i : Nat) (al : Nat → Addr) (U : List Addr) (S : Store) (H : Hp),
  (∀ u ∈ U, u ∈ U0 ∨ H0 u = none) → SR K al U S H → Nxt al0 n0 H0 al S.length H →
  (∀ d, itemI it i S = some d → i < sizeLine ∧ J.go i H ∧ ∀ x H', J.yld i H x H' → Nxt al S.length H al S.length H' ∧ SR K al U S H' ∧ Rep K al S.length U H' d x) ∧ (stI it i S → J.stop i H)
def tEvI (K : KW) (f : Env → Store → R (Itr × Store)) : TI := fun σ H Rr => ∃ al U S rho it S',
  SR K al U S H ∧ ER K al S.length U H rho σ ∧ f rho S = .ok (it, S') ∧
  ∀ J H' al', Nxt al S.length H al' S'.length H' → SR K al' U S' H' → ItOk K U al' S'.length H' J it → Rr J H'
section
variable {K : KW} {al0 : Nat → Addr} {n0 : Nat} {U0 : List Addr} {H0 : Hp}
theorem ItOk.lst {a : Addr} {vs : List V} {ds : List D} (t : LstAt K al0 n0 U0 H0 a vs) (l : ds.length ≤ sizeLine) (r : Reps K al0 n0 U0 H0 ds vs) : ItOk K U0 al0 n0 H0 (Itl K a) (.sq ds) := by
  intro i al U S H hu sr g
  have t' := ((t.widen hu).nxt g).sq
  have r' := Reps.nxt g _ _ (Reps.widen hu _ _ r)
  refine ⟨fun d e => ?_, fun e => ⟨vs, t', by rw [← r.length]; exact e⟩⟩
  have e : ds[i]? = some d := e
  obtain ⟨v, hv, rv⟩ := r'.get e
  obtain ⟨hi, _⟩ := List.getElem?_eq_some_iff.mp e
  refine ⟨Nat.lt_of_lt_of_le hi l, ⟨vs, v, t', hv⟩, fun x H' hy => ?_⟩
  obtain ⟨rfl, hy⟩ := hy
  have := hy vs t'
  rw [hv] at this
  cases this
  exact ⟨.refl, sr, rv⟩
theorem ItOk.tup {a : Addr} {vs : List V} {ds : List D} (t : TupAt K al0 n0 U0 H0 a vs) (l : ds.length ≤ sizeLine) (r : Reps K al0 n0 U0 H0 ds vs) : ItOk K U0 al0 n0 H0 (Itt K a) (.sq ds) := by
  intro i al U S H hu sr g
  have t' := ((t.widen hu).nxt g).sq
  have r' := Reps.nxt g _ _ (Reps.widen hu _ _ r)
  refine ⟨fun d e => ?_, fun e => ⟨vs, t', by rw [← r.length]; exact e⟩⟩
  have e : ds[i]? = some d := e
  obtain ⟨v, hv, rv⟩ := r'.get e
  obtain ⟨hi, _⟩ := List.getElem?_eq_some_iff.mp e
  refine ⟨Nat.lt_of_lt_of_le hi l, ⟨vs, v, t', hv⟩, fun x H' hy => ?_⟩
  obtain ⟨rfl, hy⟩ := hy
  have := hy vs t'
  rw [hv] at this
  cases this
  exact ⟨.refl, sr, rv⟩
theorem ItOk.txt {x : List Char} (l : x.length ≤ sizeLine) : ItOk K U0 al0 n0 H0 (Its (toS x)) (.sq (x.map fun c => .str [c])) := by
  intro i al U S H hu sr g
  have hz : (toS x).cps.size = x.length := toS_length x
  refine ⟨fun d e => ?_, fun e => ?_⟩
  · have e : (x.map fun c => D.str [c])[i]? = some d := e
    rw [List.getElem?_map] at e
    cases hc : x[i]? with
    | none => rw [hc] at e; cases e
    | some c =>
      rw [hc] at e
      cases e
      obtain ⟨hi, _⟩ := List.getElem?_eq_some_iff.mp hc
      refine ⟨Nat.lt_of_lt_of_le hi l, ?_, fun v H' hy => ?_⟩
      · show i < (toS x).cps.size
        rw [hz]; exact hi
      · obtain ⟨rfl, c', h1, rfl⟩ := hy
        have h2 : (toS x).cps[i]? = some c.toNat := by
          show (x.map Char.toNat).toArray[i]? = _
          simp [hc]
        rw [h2] at h1
        cases h1
        refine ⟨.refl, sr, ?_⟩
        simp only [Rep]
        exact ⟨rfl, (by decide : 1 ≤ sizeLine)⟩
  · show (toS x).cps.size ≤ i
    rw [hz]
    have e : (x.map fun c => D.str [c]).length ≤ i := e
    simpa using e
theorem rangeD_get : ∀ (n : Nat) (lo : Int) (i : Nat), (rangeD lo n)[i]? = if i < n then some (D.int (lo + i)) else none
  | 0, lo, i => by simp [rangeD]
  | n + 1, lo, 0 => by simp [rangeD]
  | n + 1, lo, i + 1 => by
    rw [rangeD, List.getElem?_cons_succ, rangeD_get n (lo + 1) i]
    by_cases h : i < n
    · rw [if_pos h, if_pos (by omega)]
      congr 2
      push_cast
      omega
    · rw [if_neg h, if_neg (by omega)]
theorem rangeD_length : ∀ (n : Nat) (lo : Int), (rangeD lo n).length = n
  | 0, _ => rfl
  | n + 1, lo => by rw [rangeD, List.length_cons, rangeD_length n]
theorem ItOk.rng {lo : Int} {n : Nat} (l : n ≤ sizeLine) : ItOk K U0 al0 n0 H0 (L2.Itr lo n) (.sq (rangeD lo n)) := by
  intro i al U S H hu sr g
  refine ⟨fun d e => ?_, fun e => ?_⟩
  · have e : (rangeD lo n)[i]? = some d := e
    rw [rangeD_get] at e
    split at e
    · rename_i hi
      cases e
      refine ⟨Nat.lt_of_lt_of_le hi l, hi, fun v H' hy => ?_⟩
      obtain ⟨rfl, rfl⟩ := hy
      exact ⟨.refl, sr, by simp only [Rep]⟩
    · cases e
  · have e : (rangeD lo n).length ≤ i := e
    rw [rangeD_length] at e
    exact e
theorem rangeC_get : ∀ (n : Nat) (lo c : Int) (i : Nat), (rangeC lo c n)[i]? = if i < n then some (D.int (lo + i * c)) else none
  | 0, lo, c, i => by simp [rangeC]
  | n + 1, lo, c, 0 => by simp [rangeC]
  | n + 1, lo, c, i + 1 => by
    rw [rangeC, List.getElem?_cons_succ, rangeC_get n (lo + c) c i]
    by_cases h : i < n
    · rw [if_pos h, if_pos (by omega)]
      congr 2
      have : ((i + 1 : Nat) : Int) * c = i * c + c := by push_cast; rw [Int.add_mul, Int.one_mul]
      rw [this]
      omega
    · rw [if_neg h, if_neg (by omega)]
theorem rangeC_length : ∀ (n : Nat) (lo c : Int), (rangeC lo c n).length = n
  | 0, _, _ => rfl
  | n + 1, lo, c => by rw [rangeC, List.length_cons, rangeC_length n]
theorem ItOk.rngC {lo c : Int} {n : Nat} (l : n ≤ sizeLine) : ItOk K U0 al0 n0 H0 (Itc lo c n) (.sq (rangeC lo c n)) := by
  intro i al U S H hu sr g
  refine ⟨fun d e => ?_, fun e => ?_⟩
  · have e : (rangeC lo c n)[i]? = some d := e
    rw [rangeC_get] at e
    split at e
    · rename_i hi
      cases e
      refine ⟨Nat.lt_of_lt_of_le hi l, hi, fun v H' hy => ?_⟩
      obtain ⟨rfl, rfl⟩ := hy
      exact ⟨.refl, sr, by simp only [Rep]⟩
    · cases e
  · have e : (rangeC lo c n).length ≤ i := e
    rw [rangeC_length] at e
    exact e
theorem ItOk.ref {S0 : Store} {m : Nat} {es : List D} (sr0 : SR K al0 U0 S0 H0) (hm : S0[m]? = some (.lst es)) : ItOk K U0 al0 S0.length H0 (Itl K (al0 m)) (.rf m) := by
  intro i al U S H hu sr g
  have hml : m < S0.length := by
    obtain ⟨q, _⟩ := List.getElem?_eq_some_iff.mp hm
    exact q
  have ea : al m = al0 m := g.agr m hml
  refine ⟨fun d e => ?_, fun e => ?_⟩
  · unfold itemI at e
    simp only at e
    split at e
    · rename_i ds eo
      obtain ⟨vs, h1, l, r⟩ := sr.obj m _ eo
      rw [ea] at h1
      obtain ⟨v, hv, rv⟩ := r.get e
      obtain ⟨hi, _⟩ := List.getElem?_eq_some_iff.mp e
      refine ⟨Nat.lt_of_lt_of_le hi l, ⟨vs, v, SqL.of h1, hv⟩, fun x H' hy => ?_⟩
      obtain ⟨rfl, hy⟩ := hy
      have := hy vs (SqL.of h1)
      rw [hv] at this
      cases this
      exact ⟨.refl, sr, rv⟩
    · cases e
  · obtain ⟨ds, eo, hl⟩ := e
    obtain ⟨vs, h1, l, r⟩ := sr.obj m _ eo
    rw [ea] at h1
    exact ⟨vs, SqL.of h1, by rw [← r.length]; exact hl⟩
end
section
variable {X : Cx} {tg : Expr}
def iAny (K : KW) (te : TE) : TI := fun σ H R => te σ H fun x H1 => (∃ a xs, x = .ref a ∧ SqL K H1 a xs ∧ R (Itl K a) H1) ∨ (∃ a xs, x = .ref a ∧ SqT K H1 a xs ∧ R (Itt K a) H1) ∨ ∃ z, x = .str z ∧ R (Its z) H1
theorem pi_any {l : Expr} {tl : TE} (hl : PE X l tl) : PI X tg l (iAny X.kw tl) := by
  refine ⟨fun pins s σ H R I h => ?_⟩
  refine thn (hl.run pins s σ H _ I h) fun v s1 ⟨x, H1, I1, r1, q1⟩ => ?_
  rcases q1 with ⟨a, xs, e, hq, q⟩ | ⟨a, xs, e, hq, q⟩ | ⟨z, e, q⟩
  · subst e
    cases r1
    obtain ⟨its, rv, p, hz⟩ := I1.list hq
    refine wpAny_pyIter_list p.isList ?_
    refine ⟨s1.heap.objs.size, [s1.heap.objs.size], _, _, H1, rfl, I1.kept (t' := s1.toks) fun b o e => Heap.get?_push_of_some _ e, turn_list a _, ⟨_, Heap.get?_push_size _ rfl, rfl, rfl⟩, fun b hb => ?_, q⟩
    have e : b = s1.heap.objs.size := by simpa using hb
    subst e
    exact I1.fpOk (Nat.le_refl _) (I1.hok.fresh (Nat.le_refl _))
  · subst e
    cases r1
    obtain ⟨its, rv, p, hz⟩ := I1.tuple hq
    refine wpAny_pyIter_tuple (show s1.heap.IsTuple a its.toArray from p) ?_
    refine ⟨s1.heap.objs.size, [s1.heap.objs.size], _, _, H1, rfl, I1.kept (t' := s1.toks) fun b o e => Heap.get?_push_of_some _ e, turn_tuple a _, ⟨_, Heap.get?_push_size _ rfl, rfl, rfl⟩, fun b hb => ?_, q⟩
    have e : b = s1.heap.objs.size := by simpa using hb
    subst e
    exact I1.fpOk (Nat.le_refl _) (I1.hok.fresh (Nat.le_refl _))
  · subst e
    obtain ⟨t, rfl⟩ := r1
    cases ha : z.cps.all (· < 128)
    · exact wpAny_pyIter_wide ha (pi_one (tk := s1.toks) I1 _ (turn_str _ z t "str_iterator" (.inr rfl)) ⟨_, Heap.get?_push_size _ rfl, rfl, rfl⟩ q)
    · exact wpAny_pyIter_ascii ha (pi_one (tk := s1.toks) I1 _ (turn_str _ z t "str_ascii_iterator" (.inl rfl)) ⟨_, Heap.get?_push_size _ rfl, rfl, rfl⟩ q)
theorem pi_weak {e : Expr} {t t' : TI} (h : PI X tg e t) (w : ∀ σ H Q, t' σ H Q → t σ H Q) : PI X tg e t' := ⟨fun pins s σ H R I q => h.run pins s σ H R I (w _ _ _ q)⟩
variable {a b : Expr} {fa fb : Env → Store → R (D × Store)} {fs : Env → Store → R (List D × Store)} {p pos : Pos}
theorem si_sq (ha : PE X a (tEv X.kw fa)) : PI X tg a (tEvI X.kw fun rho S => (fa rho S).bind fun p => (itrD .sq [p.1] p.2).bind fun it => .ok (it, p.2)) := by
  refine pi_weak (pi_any ha) fun σ H Q ⟨al, U, S, rho, it, S', sr, er, e, q⟩ => ?_
  obtain ⟨⟨d1, S1⟩, e1, e⟩ := R.bind_ok e
  obtain ⟨it', e2, e⟩ := R.bind_ok e
  cases e
  refine ⟨al, U, S, rho, d1, _, sr, er, e1, fun v1 H1 al1 n1 sr1 r1 => ?_⟩
  cases d1 with
  | str x =>
    cases e2
    simp only [Rep] at r1
    exact .inr (.inr ⟨_, r1.1, q _ _ _ n1 sr1 (ItOk.txt r1.2)⟩)
  | tup ds =>
    cases e2
    simp only [Rep] at r1
    obtain ⟨p, vs, rfl, t, l, r⟩ := r1
    exact .inr (.inl ⟨p, vs, rfl, t.sq, q _ _ _ n1 sr1 (ItOk.tup t l r)⟩)
  | lst ds =>
    cases e2
    simp only [Rep] at r1
    obtain ⟨p, vs, rfl, t, l, r⟩ := r1
    exact .inl ⟨p, vs, rfl, t.sq, q _ _ _ n1 sr1 (ItOk.lst t l r)⟩
  | fn _ => cases e2
  | ref m =>
    simp only [itrD] at e2
    split at e2
    · rename_i es eo
      cases e2
      simp only [Rep] at r1
      obtain ⟨hm, rfl⟩ := r1
      obtain ⟨vs, h1, l, r⟩ := sr1.obj m _ eo
      exact .inl ⟨_, vs, rfl, SqL.of h1, q _ _ _ n1 sr1 (ItOk.ref sr1 eo)⟩
    · cases e2
  | non => cases e2
  | bl _ => cases e2
  | int _ => cases e2
theorem si_rng1 (hg : Gl X "range") (hm : X.mg "range" = none) (ha : PA X [a] (tEvs X.kw fs)) (hs : starEach [a] X.env = [(false, eval a X.env)]) :
    PI X tg (.Call (.Name "range" p) [a] [] pos) (tEvI X.kw fun rho S => (fs rho S).bind fun p => (itrD .rng1 p.1 p.2).bind fun it => .ok (it, p.2)) := by
  refine pi_weak (pi_range1 hg hm ha hs) fun σ H Q ⟨al, U, S, rho, it, S', sr, er, e, q⟩ => ?_
  obtain ⟨⟨d1, S1⟩, e1, e⟩ := R.bind_ok e
  obtain ⟨it', e2, e⟩ := R.bind_ok e
  cases e
  refine ⟨al, U, S, rho, d1, _, sr, er, e1, fun v1 H1 al1 n1 sr1 r1 => ?_⟩
  simp only [itrD] at e2
  split at e2 <;> try (first | cases e2 | (rename_i h; cases h))
  · rename_i j _
    split at e2
    · rename_i hj
      cases e2
      simp only [Reps, Rep] at r1
      obtain ⟨v, r, rfl, rfl, rfl⟩ := r1
      have hz : sizeLine = 16777216 := by decide
      exact ⟨j, rfl, by omega, by omega, q _ _ _ n1 sr1 (ItOk.rng (by omega))⟩
    · cases e2
theorem si_rng2 (hg : Gl X "range") (hm : X.mg "range" = none) (ha : PA X [a, b] (tEvs X.kw fs)) (hs : starEach [a, b] X.env = [(false, eval a X.env), (false, eval b X.env)]) (hs2 : starEach [b] X.env = [(false, eval b X.env)]) :
    PI X tg (.Call (.Name "range" p) [a, b] [] pos) (tEvI X.kw fun rho S => (fs rho S).bind fun p => (itrD .rng2 p.1 p.2).bind fun it => .ok (it, p.2)) := by
  refine pi_weak (pi_range2 hg hm ha hs hs2) fun σ H Q ⟨al, U, S, rho, it, S', sr, er, e, q⟩ => ?_
  obtain ⟨⟨d1, S1⟩, e1, e⟩ := R.bind_ok e
  obtain ⟨it', e2, e⟩ := R.bind_ok e
  cases e
  refine ⟨al, U, S, rho, d1, _, sr, er, e1, fun v1 H1 al1 n1 sr1 r1 => ?_⟩
  simp only [itrD] at e2
  split at e2
  · rename_i i j _
    split at e2
    · rename_i hj
      cases e2
      have ev := int2_rep r1
      exact ⟨i, j, ev, ⟨by omega, by omega, by omega, by omega⟩, q _ _ _ n1 sr1 (ItOk.rng (by omega))⟩
    · cases e2
  · cases e2
theorem upQ {i j c : Int} (hc : 0 < c) (h : i < j) : (j - i + c - 1) / c = (j - i - 1) / c + 1 := by
  have : j - i + c - 1 = (j - i - 1) + c := by omega
  rw [this, Int.add_ediv_of_dvd_right (Int.dvd_refl c), Int.ediv_self (by omega)]
theorem upQ0 {i j c : Int} (hc : 0 < c) (h : ¬ i < j) : (j - i + c - 1) / c ≤ 0 := by
  have := Int.ediv_lt_of_lt_mul hc (show j - i + c - 1 < 1 * c by omega)
  omega
theorem upQ1 {i j c : Int} (hc : 0 < c) (h : i < j) : 0 ≤ (j - i - 1) / c ∧ (j - i - 1) / c ≤ j - i - 1 :=
  ⟨Int.ediv_nonneg (by omega) (by omega), Int.ediv_le_self _ (by omega)⟩
theorem rangeSize_up {i j c : Int} (hc : 0 < c) : Builtin.Range.rangeSize i j c = (((j - i + c - 1) / c).toNat : Nat) := by
  unfold Builtin.Range.rangeSize
  rw [if_pos hc]
  split
  · rename_i h
    rw [upQ hc h]
    have := upQ1 hc h
    omega
  · rename_i h
    have := upQ0 hc h
    omega
theorem small_up {i j c : Int} (h1 : -(2 ^ 61) ≤ i) (h2 : i < 2 ^ 61) (h3 : -(2 ^ 61) ≤ j) (h4 : j < 2 ^ 61) (hc : 0 < c) (hc2 : c < 1073741824) : Builtin.Range.small i j c = true := by
  unfold Builtin.Range.small Builtin.Range.rangeSize
  rw [if_pos hc]
  simp only [Builtin.Range.rangeFitsLong, Bool.and_eq_true, Bool.or_eq_true, decide_eq_true_eq, beq_iff_eq, show c > 0 from hc, if_true]
  split
  · rename_i h
    have := upQ1 hc h
    omega
  · omega
theorem upN {i j c : Int} (hc : 0 < c) (h : j - i ≤ (sizeLine : Int)) : ((j - i + c - 1) / c).toNat ≤ sizeLine := by
  by_cases h' : i < j
  · rw [upQ hc h']
    have := upQ1 hc h'
    omega
  · have := upQ0 hc h'
    omega
theorem si_rng3 {c : Expr} (hg : Gl X "range") (hm : X.mg "range" = none) (ha : PA X [a, b, c] (tEvs X.kw fs)) (hs : starEach [a, b, c] X.env = (false, eval a X.env) :: starEach [b, c] X.env) (hpl : (backTo pos (starEach [b, c] X.env)).any (·.1) = false) :
    PI X tg (.Call (.Name "range" p) [a, b, c] [] pos) (tEvI X.kw fun rho S => (fs rho S).bind fun p => (itrD .rng3 p.1 p.2).bind fun it => .ok (it, p.2)) := by
  refine pi_weak (pi_range3 hg hm ha hs hpl) fun σ H Q ⟨al, U, S, rho, it, S', sr, er, e, q⟩ => ?_
  obtain ⟨⟨d1, S1⟩, e1, e⟩ := R.bind_ok e
  obtain ⟨it', e2, e⟩ := R.bind_ok e
  cases e
  refine ⟨al, U, S, rho, d1, _, sr, er, e1, fun v1 H1 al1 n1 sr1 r1 => ?_⟩
  simp only [itrD] at e2
  split at e2
  · rename_i i j k _
    split at e2
    · rename_i hj
      cases e2
      simp only [Reps, Rep] at r1
      obtain ⟨v, r, rfl, rfl, v2, r2, rfl, rfl, v3, r3, rfl, rfl, rfl⟩ := r1
      refine ⟨i, j, k, ((j - i + k - 1) / k).toNat, rfl, ⟨by omega, by omega, ?_, rangeSize_up (by omega)⟩, q _ _ _ n1 sr1 (ItOk.rngC ?_)⟩
      · exact small_up (by omega) (by omega) (by omega) (by omega) (by omega) (by omega)
      · exact upN (by omega) (by omega)
    · cases e2
  · cases e2
/-! ### zip of two tuples -/
theorem zipD_get : ∀ (as bs : List D) (i : Nat) (d : D), (zipD as bs)[i]? = some d → ∃ x y, as[i]? = some x ∧ bs[i]? = some y ∧ d = .tup [x, y]
  | [], _, i, d, h => by simp [zipD] at h
  | _ :: _, [], i, d, h => by simp [zipD] at h
  | a :: as, b :: bs, 0, d, h => by
    simp [zipD] at h
    exact ⟨a, b, rfl, rfl, h.symm⟩
  | a :: as, b :: bs, i + 1, d, h => by
    have h : (zipD as bs)[i]? = some d := by simpa [zipD] using h
    obtain ⟨x, y, h1, h2, h3⟩ := zipD_get as bs i d h
    exact ⟨x, y, by simpa using h1, by simpa using h2, h3⟩
theorem zipD_length : ∀ (as bs : List D), (zipD as bs).length = min as.length bs.length
  | [], bs => by simp [zipD]
  | a :: as, [] => by simp [zipD]
  | a :: as, b :: bs => by
    rw [zipD, List.length_cons, zipD_length as bs, List.length_cons, List.length_cons]
    omega
def AtK (t : Bool) (K : KW) (al : Nat → Addr) (n : Nat) (U : List Addr) (H : Hp) (a : Addr) (xs : List V) : Prop := match t with
  | false => LstAt K al n U H a xs
  | true => TupAt K al n U H a xs
theorem AtK.sq {t : Bool} {K : KW} {al : Nat → Addr} {n : Nat} {U : List Addr} {H : Hp} {a : Addr} {xs : List V} (h : AtK t K al n U H a xs) : SqK t K H a xs := by
  cases t with
  | false => exact LstAt.sq h
  | true => exact TupAt.sq h
theorem AtK.mv {t : Bool} {K : KW} {al al' : Nat → Addr} {n n' : Nat} {U U' : List Addr} {H H' : Hp} {a : Addr} {xs : List V} (h : AtK t K al n U H a xs) (hu : ∀ u ∈ U', u ∈ U ∨ H u = none) (g : Nxt al n H al' n' H') : AtK t K al' n' U' H' a xs := by
  cases t with
  | false => exact (LstAt.widen h hu).nxt g
  | true => exact (TupAt.widen h hu).nxt g
theorem ItOk.zip2 {K : KW} {t t' : Bool} {al0 : Nat → Addr} {n0 : Nat} {U0 : List Addr} {H0 : Hp} {a b : Addr} {vs ws : List V} {as bs : List D} (ta : AtK t K al0 n0 U0 H0 a vs) (tb : AtK t' K al0 n0 U0 H0 b ws) (l : as.length ≤ sizeLine) (ra : Reps K al0 n0 U0 H0 as vs) (rb : Reps K al0 n0 U0 H0 bs ws) : ItOk K U0 al0 n0 H0 (ItzA K t t' a b) (.sq (zipD as bs)) := by
  intro i al U S H hu sr g
  have sa := (ta.mv hu g).sq
  have sb := (tb.mv hu g).sq
  have ra' := Reps.nxt g _ _ (Reps.widen hu _ _ ra)
  have rb' := Reps.nxt g _ _ (Reps.widen hu _ _ rb)
  refine ⟨fun d e => ?_, fun e => ⟨vs, ws, sa, sb, ?_⟩⟩
  · obtain ⟨x, y, ex, ey, rfl⟩ := zipD_get as bs i d e
    obtain ⟨v, hv, rv⟩ := ra'.get ex
    obtain ⟨w, hw, rw'⟩ := rb'.get ey
    refine ⟨Nat.lt_of_lt_of_le (List.getElem?_eq_some_iff.mp ex).1 l, ⟨vs, ws, v, w, sa, sb, hv, hw⟩, fun u H' hy => ?_⟩
    obtain ⟨T, ob, v', w', rfl, hT, hd, rfl, f1, f2⟩ := hy
    have e1 := f1 vs sa
    have e2 := f2 ws sb
    rw [hv] at e1
    rw [hw] at e2
    cases e1
    cases e2
    obtain ⟨n1, s1⟩ := sr.lay hT (.frz ob (.tup [v, w]))
    refine ⟨n1, s1, Rep.tup_new (ds := [x, y]) sr hT hd (show 2 ≤ sizeLine by decide) ?_⟩
    simp only [Reps]
    exact ⟨_, _, rfl, Rep.nxt n1 _ _ rv, _, _, rfl, Rep.nxt n1 _ _ rw', rfl⟩
  · have e : (zipD as bs).length ≤ i := e
    rw [zipD_length] at e
    rw [← ra.length, ← rb.length]
    omega
theorem si_zip2 {elts : List Expr} {kk : Nat} {tpos : Pos} (hc : X.calm = true) (hg : Gl X "zip") (hm : X.mg "zip" = none) (ha : PA X [a, b] (tEvs X.kw fs)) (hs : starEach [a, b] X.env = (false, eval a X.env) :: starEach [b] X.env) (hpl : (backTo pos (starEach [b] X.env)).any (·.1) = false) :
    PI X (.Tuple elts kk tpos) (.Call (.Name "zip" p) [a, b] [] pos) (tEvI X.kw fun rho S => (fs rho S).bind fun p => (itrD .zip2 p.1 p.2).bind fun it => .ok (it, p.2)) := by
  refine pi_weak (pi_za hg hm ha hs hpl) fun σ H Q ⟨al, U, S, rho, it, S', sr, er, e, q⟩ => ?_
  obtain ⟨⟨d1, S1⟩, e1, e⟩ := R.bind_ok e
  obtain ⟨it', e2, e⟩ := R.bind_ok e
  cases e
  refine ⟨al, U, S, rho, d1, _, sr, er, e1, fun v1 H1 al1 n1 sr1 r1 => ?_⟩
  simp only [itrD] at e2
  split at e2
  · cases e2
    simp only [Reps, Rep] at r1
    obtain ⟨v, _, rfl, ⟨pa, vs, rfl, ta, la, ra⟩, w, _, rfl, ⟨pb, ws, rfl, tb, lb, rb⟩, rfl⟩ := r1
    exact ⟨true, true, pa, pb, vs, ws, rfl, ta.sq, tb.sq, q _ _ _ n1 sr1 (ItOk.zip2 (t := true) (t' := true) ta tb la ra rb)⟩
  · cases e2
    simp only [Reps, Rep] at r1
    obtain ⟨v, _, rfl, ⟨pa, vs, rfl, ta, la, ra⟩, w, _, rfl, ⟨pb, ws, rfl, tb, lb, rb⟩, rfl⟩ := r1
    exact ⟨false, true, pa, pb, vs, ws, rfl, ta.sq, tb.sq, q _ _ _ n1 sr1 (ItOk.zip2 (t := false) (t' := true) ta tb la ra rb)⟩
  · cases e2
    simp only [Reps, Rep] at r1
    obtain ⟨v, _, rfl, ⟨pa, vs, rfl, ta, la, ra⟩, w, _, rfl, ⟨pb, ws, rfl, tb, lb, rb⟩, rfl⟩ := r1
    exact ⟨true, false, pa, pb, vs, ws, rfl, ta.sq, tb.sq, q _ _ _ n1 sr1 (ItOk.zip2 (t := true) (t' := false) ta tb la ra rb)⟩
  · cases e2
    simp only [Reps, Rep] at r1
    obtain ⟨v, _, rfl, ⟨pa, vs, rfl, ta, la, ra⟩, w, _, rfl, ⟨pb, ws, rfl, tb, lb, rb⟩, rfl⟩ := r1
    exact ⟨false, false, pa, pb, vs, ws, rfl, ta.sq, tb.sq, q _ _ _ n1 sr1 (ItOk.zip2 (t := false) (t' := false) ta tb la ra rb)⟩
  · cases e2
end
end Z

set_option Elab.async false
set_option linter.all false
set_option maxRecDepth 100000
set_option maxHeartbeats 4000000
/-! Ev6: comprehensions. -/
namespace Z
open PySem L2 PySem.Spec PyProof.Rows

inductive RunC (f : D → Store → R (List D × Store)) (it : Itr) : Nat → Nat → Store → List D → Store → Prop
  | stop {i : Nat} {S : Store} (h : stI it i S) : RunC f it 0 i S [] S
  | step {k i : Nat} {S S1 S2 : Store} {d : D} {p r : List D} (h : itemI it i S = some d) (e : f d S = .ok (p, S1)) (n : RunC f it k (i + 1) S1 r S2) : RunC f it (k + 1) i S (p ++ r) S2
theorem runL {f : D → Store → R (List D × Store)} : ∀ {ds es : List D} {i : Nat} {S S2 : Store} {r : List D}, es = ds.drop i → i ≤ ds.length → compL f es S = .ok (r, S2) → RunC f (.sq ds) es.length i S r S2
  | ds, [], i, S, S2, r, e, hi, h => by
    cases h
    refine .stop ?_
    show ds.length ≤ i
    have := congrArg List.length e
    simp at this
    omega
  | ds, d :: es, i, S, S2, r, e, hi, h => by
    unfold compL at h
    obtain ⟨⟨p, S1⟩, e1, h⟩ := R.bind_ok h
    obtain ⟨⟨q, S3⟩, e2, h⟩ := R.bind_ok h
    cases h
    have h0 : ds[i]? = some d := by
      have : (ds.drop i)[0]? = some d := by rw [← e]; rfl
      simpa using this
    obtain ⟨hi', _⟩ := List.getElem?_eq_some_iff.mp h0
    have h1 : es = ds.drop (i + 1) := by
      have : (ds.drop i).tail = ds.drop (i + 1) := by simp
      rw [← this, ← e]
      rfl
    exact .step (it := .sq ds) h0 e1 (runL h1 (by omega) e2)
theorem runR {f : D → Store → R (List D × Store)} {n len : Nat} : ∀ {m i : Nat} {S S2 : Store} {r : List D}, i + m = len → compR f n len m i S = .ok (r, S2) → RunC f (.rf n) m i S r S2
  | 0, i, S, S2, r, e, h => by
    unfold compR at h
    split at h
    · rename_i ds eo
      split at h
      · rename_i hl
        cases h
        exact .stop ⟨ds, eo, by omega⟩
      · cases h
    · cases h
  | m + 1, i, S, S2, r, e, h => by
    unfold compR at h
    split at h
    · rename_i ds eo
      split at h
      · rename_i hl
        split at h
        · rename_i d hd
          obtain ⟨⟨p, S1⟩, e1, h⟩ := R.bind_ok h
          obtain ⟨⟨q, S3⟩, e2, h⟩ := R.bind_ok h
          cases h
          refine .step (it := .rf n) ?_ e1 (runR (by omega) e2)
          simp only [itemI, eo]
          exact hd
        · cases h
      · cases h
    · cases h
theorem runI {f : D → Store → R (List D × Store)} {it : Itr} {S S2 : Store} {r : List D} (h : compI f it S = .ok (r, S2)) : ∃ k, RunC f it k 0 S r S2 := by
  cases it with
  | sq ds => exact ⟨_, runL (i := 0) (by simp) (Nat.zero_le _) h⟩
  | rf n =>
    unfold compI at h
    simp only at h
    split at h
    · exact ⟨_, runR (by omega) h⟩
    · cases h

/-- the names that a loop's target binds, by values -/
def gNames : List Nat → TGs
  | [] => gNil
  | i :: is => gCons (gName i) (gNames is)
def gB (K : KW) (g : List Nat) (one : Bool) : TG := if one then (match g with
    | [i] => gName i
    | _ => fun _ _ _ _ => False) else gTup K g.length (gNames g)
section
variable {K : KW} {al : Nat → Addr} {n : Nat} {U : List Addr} {H : Hp}
theorem gNames_rep : ∀ {g : List Nat} {ds : List D} {vs : List V} {rho : Env} {σ : L2.St} {Q : L2.St → Hp → Prop}, ds.length = g.length → Reps K al n U H ds vs → ER K al n U H rho σ →
    (∀ σ', ER K al n U H ((g.zip ds).foldl (fun rho p => rho.set p.1 (some p.2)) rho) σ' → (∀ j, j ∉ g → σ'[j]? = σ[j]?) → σ'.length = σ.length → Q σ' H) → gNames g vs σ H Q
  | [], ds, vs, rho, σ, Q, hl, rs, er, q => by
    have e : ds = [] := List.eq_nil_of_length_eq_zero hl
    subst e
    simp only [Reps] at rs
    exact ⟨rs, q σ er (fun _ _ => rfl) rfl⟩
  | i :: g, [], vs, rho, σ, Q, hl, rs, er, q => by cases hl
  | i :: g, d :: ds, vs, rho, σ, Q, hl, rs, er, q => by
    simp only [Reps] at rs
    obtain ⟨v, r, rfl, r1, r2⟩ := rs
    refine ⟨v, r, rfl, ?_⟩
    refine gNames_rep (rho := rho.set i (some d)) (by simpa using hl) r2 (er.set r1 i) fun σ' er' h1 h2 => q σ' er' (fun j hj => ?_) (by rw [h2]; simp)
    rw [h1 j (fun z => hj (List.mem_cons_of_mem _ z)), List.getElem?_set_ne (fun z => hj (by rw [← z]; exact List.mem_cons_self))]
theorem gB_rep {g : List Nat} {one : Bool} {d : D} {v : V} {rho rho' : Env} {σ : L2.St} {Q : L2.St → Hp → Prop} (rd : Rep K al n U H d v) (er : ER K al n U H rho σ) (e : bindG g one d rho = .ok rho')
    (q : ∀ σ', ER K al n U H rho' σ' → (∀ j, j ∉ g → σ'[j]? = σ[j]?) → σ'.length = σ.length → Q σ' H) : gB K g one v σ H Q := by
  unfold bindG at e
  unfold gB
  cases one with
  | true =>
    rw [if_pos rfl] at e ⊢
    match g, e with
    | [], e => cases e
    | _ :: _ :: _, e => cases e
    | [i], e =>
      cases e
      exact q _ (er.set rd i) (fun j hj => List.getElem?_set_ne (fun z => hj (by rw [← z]; exact List.mem_cons_self))) (by simp)
  | false =>
    rw [if_neg Bool.false_ne_true] at e ⊢
    cases d with
    | tup ds =>
      simp only at e
      split at e
      · rename_i hl
        cases e
        simp only [Rep] at rd
        obtain ⟨a, vs, rfl, t, l, rs⟩ := rd
        exact ⟨a, vs, rfl, t.sq, by rw [← rs.length]; exact hl, gNames_rep hl rs er q⟩
      · cases e
    | _ => cases e
end
theorem wipe_same {vs : List Nat} {σ σ' : L2.St} (h : ∀ j, j ∉ vs → σ'[j]? = σ[j]?) (hl : σ'.length = σ.length) : wipe σ' vs = wipe σ vs := by
  have ex : ∀ (ws : List Nat) (t : L2.St) (j : Nat), (wipe t ws)[j]? = if j ∈ ws then (if j < t.length then some none else none) else t[j]? := by
    intro ws
    induction ws with
    | nil => intro t j; simp [wipe]
    | cons w ws ih =>
      intro t j
      unfold wipe
      by_cases hj : w = j
      · subst hj
        by_cases hw : w < (wipe t ws).length
        · rw [List.getElem?_set_self hw]
          rw [wipe_length] at hw
          simp [hw]
        · rw [List.getElem?_eq_none (by simpa using hw)]
          rw [wipe_length] at hw
          simp [hw]
      · rw [List.getElem?_set_ne hj, ih]
        have : (j ∈ w :: ws) ↔ j ∈ ws := by simp [Ne.symm hj]
        simp [this]
  apply List.ext_getElem?
  intro j
  rw [ex, ex, hl]
  by_cases hj : j ∈ vs
  · simp [hj]
  · simp [hj, h j hj]
theorem wipe_twice (σ : L2.St) (vs : List Nat) : wipe (wipe σ vs) vs = wipe σ vs := by
  apply wipe_same
  · intro j hj
    have ex : ∀ (ws : List Nat) (t : L2.St) (j : Nat), j ∉ ws → (wipe t ws)[j]? = t[j]? := by
      intro ws
      induction ws with
      | nil => intro t j _; rfl
      | cons w ws ih =>
        intro t j hj
        unfold wipe
        rw [List.getElem?_set_ne (fun z => hj (by rw [z]; exact List.mem_cons_self)), ih t j fun z => hj (List.mem_cons_of_mem _ z)]
    exact ex vs σ j hj
  · exact wipe_length σ vs

def tEvTs (K : KW) (f : Env → Store → R (D × Store)) : TT := tEvT K f
section
variable {X : Cx}
theorem sts_nil : PTs X [] (tEvT X.kw fun _ S => .ok (.bl true, S)) := ⟨fun pins s σ H Q I ⟨al, U, S, rho, b, S', sr, er, e, q⟩ => by
  cases e
  exact pts_nil.run pins s σ H Q I (q H al .refl sr)⟩
theorem sts_one {c : Expr} {fc : Env → Store → R (D × Store)} (h : PT X c (tEvT X.kw fc)) : PTs X [c] (tEvT X.kw fc) := pts_one h
/-- one turn's work -/
def turnC (own g : List Nat) (one : Bool) (fc fe : Env → Store → R (D × Store)) (rho : Env) : D → Store → R (List D × Store) := fun d S =>
  (bindG g one d (wipeE rho own)).bind fun rho' => (fc rho' S).bind fun q => match q.1 with
    | .bl true => (fe rho' q.2).bind fun r => .ok ([r.1], r.2)
    | .bl false => .ok ([], q.2)
    | _ => .bad
theorem comp_read {own g : List Nat} {one : Bool} (hgo : ∀ i ∈ g, i ∈ own) {m : Bool} {fi : Env → Store → R (Itr × Store)} {fc fe : Env → Store → R (D × Store)} {σ : L2.St} {H : Hp} {Q : VK}
    (h : tEv X.kw (fun rho S => (fi rho S).bind fun p => (compI (turnC own g one fc fe rho) p.1 p.2).bind fun q => litD m q.1 q.2) σ H Q) :
    tLc (tEvI X.kw fi) (gB X.kw g one) (tEvT X.kw fc) (tEv X.kw fe) own σ H Q := by
  obtain ⟨al, U, S, rho, d, S', sr, er, e, q⟩ := h
  obtain ⟨⟨it, S1⟩, e1, e⟩ := R.bind_ok e
  obtain ⟨⟨res, S2⟩, e2, e⟩ := R.bind_ok e
  obtain ⟨k0, run⟩ := runI e2
  refine ⟨al, U, S, rho, it, S1, sr, er, e1, fun J H1 al1 n1 sr1 ok Dn hD => ?_⟩
  have hDU : Dn ∉ U := fun z => sr1.liv Dn z hD
  refine ⟨fun i k Hc => ∃ alc Sc acc accD rest, SR X.kw alc (Dn :: U) Sc Hc ∧ Nxt al1 S1.length H1 alc Sc.length Hc ∧ Hc Dn = some (.lst acc) ∧ Reps X.kw alc Sc.length (Dn :: U) Hc accD acc ∧ accD.length ≤ i ∧
      RunC (turnC own g one fc fe rho) it k i Sc rest S2 ∧ res = accD ++ rest ∧ i ≤ sizeLine, ⟨k0, al1, S1, [], [], res, sr1.fresh1 hD _, (sr1.lay hD _).1, upd_same, by simp only [Reps], Nat.zero_le _, run, rfl, Nat.zero_le _⟩, ?_⟩
  rintro i k Hc ⟨alc, Sc, acc, accD, rest, src, nc, hc, rc, hl, runc, er2, hiz⟩
  have hu : ∀ u ∈ Dn :: U, u ∈ U ∨ H1 u = none := fun u hm => (List.mem_cons.mp hm).elim (fun z => .inr (by rw [z]; exact hD)) .inl
  obtain ⟨ok1, ok2⟩ := ok i alc (Dn :: U) Sc Hc hu src nc
  cases runc with
  | stop hst =>
    refine .inl ⟨ok2 hst, ?_⟩
    rw [List.append_nil] at er2
    subst er2
    have nall : Nxt al S.length H alc S2.length Hc := sr1.trans n1 nc
    unfold litD at e
    cases m with
    | false =>
      simp at e
      obtain ⟨rfl, rfl⟩ := e
      refine q _ _ alc nall (src.less fun u hm => List.mem_cons_of_mem _ hm) ?_
      simp only [Rep]
      refine ⟨Dn, acc, rfl, .inl ⟨.inl hc, fun i hi z => src.off i hi (by rw [← z]; exact List.mem_cons_self), hDU⟩, Nat.le_trans hl hiz, Reps.widen (fun u hm => .inl (List.mem_cons_of_mem _ hm)) _ _ rc⟩
    | true =>
      simp at e
      obtain ⟨rfl, rfl⟩ := e
      obtain ⟨sa, ea⟩ := src.adopt hDU (o := .lst res) fun gr => ⟨acc, hc, Nat.le_trans hl hiz, gr _ _ rc⟩
      have e2' : ∀ i, i < S2.length → ext1 alc S2.length Dn i = alc i := fun i hi => if_neg (by omega)
      have nad : Nxt al1 S1.length H1 (ext1 alc S2.length Dn) (S2 ++ [O.lst res]).length Hc := by
        refine ⟨nc.ext, by simp only [List.length_append, List.length_singleton]; have := nc.le; omega, fun i hi => ?_, fun i h1 h2 => ?_⟩
        · rw [e2' i (Nat.lt_of_lt_of_le hi nc.le)]; exact nc.agr i hi
        · simp only [List.length_append, List.length_singleton] at h2
          by_cases hi : i < S2.length
          · rw [e2' i hi]; exact nc.new i h1 hi
          · have : i = S2.length := by omega
            subst this
            rw [ea]
            exact hD
      refine q _ _ _ (sr1.trans n1 nad) sa ?_
      simp only [Rep]
      exact ⟨by simp, by rw [ea]⟩
  | step hit ef runn =>
    rename_i k' Sd d' p r'
    obtain ⟨hi, go, yl⟩ := ok1 d' hit
    refine .inr ⟨go, fun Hn => ∃ alc Sc acc accD, SR X.kw alc (Dn :: U) Sc Hn ∧ Nxt al1 S1.length H1 alc Sc.length Hn ∧ Hn Dn = some (.lst acc) ∧ Reps X.kw alc Sc.length (Dn :: U) Hn accD acc ∧ accD.length ≤ i + 1 ∧
      RunC (turnC own g one fc fe rho) it k' (i + 1) Sc r' S2 ∧ res = accD ++ r', fun H' ⟨alx, Sx, ax, axD, h1, h2, h3, h4, h5, h6, h7⟩ => ⟨k', Nat.lt_succ_self _, alx, Sx, ax, axD, r', h1, h2, h3, h4, h5, h6, h7, hi⟩, fun x H' hy => ?_⟩
    obtain ⟨ny, sry, rx⟩ := yl x H' hy
    have hDa : ∀ (alz : Nat → Addr) (Sz : Store) (Hz : Hp), SR X.kw alz (Dn :: U) Sz Hz → ∀ j, j < Sz.length → Dn ≠ alz j := fun alz Sz Hz sz j hj z => sz.off j hj (by rw [← z]; exact List.mem_cons_self)
    have hDy : H' Dn = some (.lst acc) := ny.ext _ _ hc (hDa _ _ _ src)
    have ncy : Nxt al1 S1.length H1 alc Sc.length H' := src.trans nc ny
    -- the names
    unfold turnC at ef
    obtain ⟨rho', eb, ef⟩ := R.bind_ok ef
    have ery : ER X.kw alc Sc.length (Dn :: U) H' rho σ := by
      have e0 : ER X.kw al1 S1.length U H1 rho σ := er.nxt n1
      have e1 : ER X.kw al1 S1.length (Dn :: U) H1 rho σ := ⟨e0.1, fun i d e => let ⟨v, e1, r⟩ := e0.2 i d e; ⟨v, e1, Rep.widen hu _ _ r⟩⟩
      exact e1.nxt ncy
    refine gB_rep rx (ery.wipe own) eb fun σ2 er3 h1 h2 => ⟨?_, ?_⟩
    · have : wipe σ2 own = wipe (wipe σ own) own := wipe_same (fun j hj => h1 j fun z => hj (hgo j z)) h2
      rw [this, wipe_twice]
    obtain ⟨⟨b, S3⟩, ec, ef⟩ := R.bind_ok ef
    simp only at ef
    split at ef
    · rename_i eb2
      refine ⟨alc, Dn :: U, Sc, rho', true, S3, sry, er3, ec, fun H3 al3 n3 sr3 => ?_⟩
      show if true = true then _ else _
      rw [if_pos rfl]
      obtain ⟨⟨y, S4⟩, ee, ef⟩ := R.bind_ok ef
      cases ef
      refine ⟨al3, Dn :: U, S3, rho', y, _, sr3, er3.nxt n3, ee, fun v H4 al4 n4 sr4 r4 => ?_⟩
      have hD4 : H4 Dn = some (.lst acc) := n4.ext _ _ (n3.ext _ _ hDy (hDa _ _ _ sry)) (hDa _ _ _ sr3)
      have n14 : Nxt al1 S1.length H1 al4 S4.length H4 := sr3.trans (sry.trans ncy n3) n4
      refine ⟨acc, hD4, ?_, al4, S4, acc ++ [v], accD ++ [y], sr4.touch List.mem_cons_self, ?_, upd_same, ?_, ?_, runn, ?_⟩
      · rw [← rc.length]; exact Nat.lt_of_le_of_lt hl hi
      · refine ⟨fun a o ea z => ?_, n14.le, n14.agr, n14.new⟩
        rw [upd_ne (fun zz => by rw [zz, hD] at ea; cases ea)]
        exact n14.ext a o ea z
      · have hx : ∀ a o, H4 a = some o → a ∉ Dn :: U → upd H4 Dn (.lst (acc ++ [v])) a = some o := fun a o ea hn => by
          rw [upd_ne (fun z => hn (by rw [z]; exact List.mem_cons_self))]
          exact ea
        refine Reps.append (Reps.touch hx _ _ (Reps.nxt n4 _ _ (Reps.nxt n3 _ _ (Reps.nxt ny _ _ rc)))) ?_
        simp only [Reps]
        exact ⟨v, [], rfl, Rep.touch hx _ _ r4, rfl⟩
      · simp only [List.length_append, List.length_singleton]; omega
      · rw [er2, List.append_assoc]
    · rename_i eb2
      cases ef
      refine ⟨alc, Dn :: U, Sc, rho', false, _, sry, er3, ec, fun H3 al3 n3 sr3 => ?_⟩
      show if false = true then _ else _
      rw [if_neg Bool.false_ne_true]
      have hD3 : H3 Dn = some (.lst acc) := n3.ext _ _ hDy (hDa _ _ _ sry)
      exact ⟨al3, Sd, acc, accD, sr3, sry.trans ncy n3, hD3, Reps.nxt n3 _ _ (Reps.nxt ny _ _ rc), by omega, runn, by rw [er2]; rfl⟩
    · cases ef
end
end Z

set_option Elab.async false
set_option linter.all false
set_option maxRecDepth 100000
set_option maxHeartbeats 4000000
/-! Ev7: statements, calls of defs. -/
namespace Z
open PySem L2 PySem.Spec PyProof.Rows

def tEvG (K : KW) (f : D → Env → Store → R (Env × Store)) : TG := fun v σ H Q => ∃ al U S rho d rho' S',
  SR K al U S H ∧ ER K al S.length U H rho σ ∧ Rep K al S.length U H d v ∧ f d rho S = .ok (rho', S') ∧
  ∀ σ' H' al', Nxt al S.length H al' S'.length H' → SR K al' U S' H' → ER K al' S'.length U H' rho' σ' → Q σ' H'
def tEvGs (K : KW) (f : List D → Env → Store → R (Env × Store)) : TGs := fun vs σ H Q => ∃ al U S rho ds rho' S',
  SR K al U S H ∧ ER K al S.length U H rho σ ∧ Reps K al S.length U H ds vs ∧ f ds rho S = .ok (rho', S') ∧
  ∀ σ' H' al', Nxt al S.length H al' S'.length H' → SR K al' U S' H' → ER K al' S'.length U H' rho' σ' → Q σ' H'
/-- how a statement's end is met -/
def EndOk (K : KW) (U : List Addr) (al : Nat → Addr) (n : Nat) (H : Hp) (D : Ends) (fl : Fl) (rho' : Env) (S' : Store) : Prop :=
  match fl with
  | .nx => ∀ σ' H' al', Nxt al n H al' S'.length H' → SR K al' U S' H' → ER K al' S'.length U H' rho' σ' → D.nx σ' H'
  | .ct => ∀ σ' H' al', Nxt al n H al' S'.length H' → SR K al' U S' H' → ER K al' S'.length U H' rho' σ' → D.ct σ' H'
  | .bk => ∀ σ' H' al', Nxt al n H al' S'.length H' → SR K al' U S' H' → ER K al' S'.length U H' rho' σ' → D.bk σ' H'
  | .rt d => ∀ v H' al', Nxt al n H al' S'.length H' → SR K al' U S' H' → Rep K al' S'.length U H' d v → D.rt v H'
def tEvS (K : KW) (f : Env → Store → R (Fl × Env × Store)) : TS := fun D σ H => ∃ al U S rho fl rho' S',
  SR K al U S H ∧ ER K al S.length U H rho σ ∧ f rho S = .ok (fl, rho', S') ∧ EndOk K U al S.length H D fl rho' S'
/-- from an earlier state on -/
theorem EndOk.back {K : KW} {U : List Addr} {al al1 : Nat → Addr} {n : Nat} {S1 : Store} {H H1 : Hp} {D : Ends} {fl : Fl} {rho' : Env} {S' : Store} (sr1 : SR K al1 U S1 H1) (g : Nxt al n H al1 S1.length H1) (h : EndOk K U al n H D fl rho' S') : EndOk K U al1 S1.length H1 D fl rho' S' := by
  cases fl with
  | nx => exact fun σ' H' al' n' => h σ' H' al' (sr1.trans g n')
  | ct => exact fun σ' H' al' n' => h σ' H' al' (sr1.trans g n')
  | bk => exact fun σ' H' al' n' => h σ' H' al' (sr1.trans g n')
  | rt d => exact fun σ' H' al' n' => h σ' H' al' (sr1.trans g n')

section
variable {X : Cx} {a b c o e : Expr} {es : List Expr} {st : Stmt} {sts sts2 : List Stmt} {pos p p2 : Pos} {fa fb fc : Env → Store → R (D × Store)} {fs : Env → Store → R (List D × Store)} {fg : D → Env → Store → R (Env × Store)} {fgs : List D → Env → Store → R (Env × Store)}
  {f1 f2 : Env → Store → R (Fl × Env × Store)}

/-! ### targets -/
theorem sg_nm {i : Nat} {x : Str} (hN : X.N.Nodup) (hi : X.N[i]? = some x) (hx : Loc X.env.scope x) (hf : X.fn x = true ∨ X.env.scope.names.lookup x = some .local) : PG X (.Name x pos) (tEvG X.kw fun d rho S => .ok (rho.set i (some d), S)) := by
  refine pg_weak (pg_name hN hi hx hf) fun v σ H Q ⟨al, U, S, rho, d, rho', S', sr, er, rd, e, q⟩ => ?_
  cases e
  exact q _ H al .refl sr (er.set rd i)
theorem sg_sub (hu : X.A.units + 64 < cLine) (ho : PE X a (tEv X.kw fa)) (hi : PE X b (tEv X.kw fb))
    (ha : ∀ v, assign (.Subscript a b pos) X.env v = (do
      let ov ← holding [v] (eval a X.env)
      let iv ← holding [v, ov] (eval b X.env)
      standAt pos
      holding [v, ov, iv] (setItem ov iv v)
      release [v, ov, iv] [])) : PG X (.Subscript a b pos) (tEvG X.kw fun d rho S => (fa rho S).bind fun p => (fb rho p.2).bind fun q => (subD p.1 q.1 d q.2).bind fun S' => .ok (rho, S')) := by
  refine pg_weak (pg_sub ho hi (set_D hu) ha) fun v σ H Q ⟨al, U, S, rho, d, rho', S', sr, er, rd, e, q⟩ => ?_
  obtain ⟨⟨d1, S1⟩, e1, e⟩ := R.bind_ok e
  obtain ⟨⟨d2, S2⟩, e2, e⟩ := R.bind_ok e
  obtain ⟨S3, e3, e⟩ := R.bind_ok e
  cases e
  exact ⟨al, U, S, rho, d1, S1, sr, er, e1, fun v1 H1 al1 n1 sr1 r1 => ⟨al1, U, S1, rho, d2, S2, sr1, er.nxt n1, e2, fun v2 H2 al2 n2 sr2 r2 =>
    have n12 := sr1.trans n1 n2
    ⟨al2, U, S2, d1, d2, d, S', sr2, Rep.nxt n2 _ _ r1, r2, Rep.nxt n12 _ _ rd, e3, fun H3 al3 n3 sr3 => q σ H3 al3 (sr2.trans n12 n3) sr3 ((er.nxt n12).nxt n3)⟩⟩⟩
theorem sgs_nil : PGs X [] (tEvGs X.kw fun ds rho S => match ds with
    | [] => .ok (rho, S)
    | _ => .bad) := ⟨fun pins s σ H vs us Q I r h => by
  obtain ⟨al, U, S, rho, ds, rho', S', sr, er, rd, e, q⟩ := h
  simp only at e
  split at e
  · cases e
    simp only [Reps] at rd
    exact pgs_nil.run pins s σ H vs us Q I r ⟨rd, q σ H al .refl sr er⟩
  · cases e⟩
theorem sgs_cons (hg : PG X a (tEvG X.kw fg)) (hgs : PGs X es (tEvGs X.kw fgs)) (hs : (assignEach (a :: es) X.env).map (·.2) = assign a X.env :: (assignEach es X.env).map (·.2)) :
    PGs X (a :: es) (tEvGs X.kw fun ds rho S => match ds with
      | d :: ds => (fg d rho S).bind fun p => fgs ds p.1 p.2
      | _ => .bad) := ⟨fun pins s σ H vs us Q I r h => by
  obtain ⟨al, U, S, rho, ds, rho', S', sr, er, rd, e, q⟩ := h
  simp only at e
  split at e
  · rename_i d ds'
    obtain ⟨⟨rho1, S1⟩, e1, e⟩ := R.bind_ok e
    simp only [Reps] at rd
    obtain ⟨v, r', rfl, r1, r2⟩ := rd
    exact (pgs_cons hg hgs hs).run pins s σ H _ us Q I r ⟨v, r', rfl, al, U, S, rho, d, rho1, S1, sr, er, r1, e1, fun σ1 H1 al1 n1 sr1 er1 =>
      ⟨al1, U, S1, rho1, ds', rho', S', sr1, er1, Reps.nxt n1 _ _ r2, e, fun σ2 H2 al2 n2 sr2 er2 => q σ2 H2 al2 (sr1.trans n1 n2) sr2 er2⟩⟩
  · cases e⟩
theorem sg_tp {k n : Nat} (hc : X.calm = true) (hgs : PGs X es (tEvGs X.kw fgs)) (hn : (assignEach es X.env).length = n) (hst : (assignEach es X.env).findIdx? (·.1) = none) : PG X (.Tuple es k pos) (tEvG X.kw fun d rho S => match d with
    | .tup ds => if ds.length = n then fgs ds rho S else .bad
    | _ => .bad) := by
  refine pg_weak (pg_tup hc hgs hn hst) fun v σ H Q ⟨al, U, S, rho, d, rho', S', sr, er, rd, e, q⟩ => ?_
  cases d with
  | tup ds =>
    simp only at e
    split at e
    · rename_i hl
      simp only [Rep] at rd
      obtain ⟨a, vs, rfl, t, l, rs⟩ := rd
      exact ⟨a, vs, rfl, t.sq, by rw [← rs.length]; exact hl, al, U, S, rho, ds, rho', S', sr, er, rs, e, q⟩
    · cases e
  | _ => cases e

/-! ### statements -/
theorem ss_asg (he : PE X e (tEv X.kw fa)) (hg : PG X a (tEvG X.kw fg)) (hs : swapsWithSole [a] e pos.line X.env = pure false) (hw : swappedStores [a] e X.env = pure none) (h1 : (assignEach [a] X.env).map (·.2) = [assign a X.env]) :
    PS X (.Assign [a] e pos) (tEvS X.kw fun rho S => (fa rho S).bind fun p => (fg p.1 rho p.2).bind fun q => .ok (.nx, q)) := by
  refine ps_weak (ps_asg he hg hs hw h1) fun D σ H ⟨al, U, S, rho, fl, rho', S', sr, er, e, q⟩ => ?_
  obtain ⟨⟨d1, S1⟩, e1, e⟩ := R.bind_ok e
  obtain ⟨⟨d2, S2⟩, e2, e⟩ := R.bind_ok e
  cases e
  exact ⟨al, U, S, rho, d1, S1, sr, er, e1, fun v1 H1 al1 n1 sr1 r1 => ⟨al1, U, S1, rho, d1, _, _, sr1, er.nxt n1, r1, e2, fun σ2 H2 al2 n2 sr2 er2 => q σ2 H2 al2 (sr1.trans n1 n2) sr2 er2⟩⟩
theorem ss_set {i : Nat} {x : Str} {pos' : Pos} (hN : X.N.Nodup) (hi : X.N[i]? = some x) (hx : Loc X.env.scope x) (hf : X.fn x = true ∨ X.env.scope.names.lookup x = some .local) (he : PE X e (tEv X.kw fa)) (hs : swapsWith e (some (.Name x pos')) pos.line X.env = pure false) :
    PS X (.Assign [.Name x pos'] e pos) (tEvS X.kw fun rho S => (fa rho S).bind fun p => .ok (.nx, rho.set i (some p.1), p.2)) := by
  refine ps_weak (ps_set hN hi hx he hs hf) fun D σ H ⟨al, U, S, rho, fl, rho', S', sr, er, e, q⟩ => ?_
  obtain ⟨⟨d1, S1⟩, e1, e⟩ := R.bind_ok e
  cases e
  exact ⟨al, U, S, rho, d1, _, sr, er, e1, fun v1 H1 al1 n1 sr1 r1 => q _ H1 al1 n1 sr1 ((er.nxt n1).set r1 i)⟩
theorem ss_setLc {i : Nat} {y : Str} {py : Pos} {elt tg iter : Expr} {ifs : List Expr} {scope : Scope} {own : List (Str × Nat)} {g : List Nat} {one m : Bool} {spos : Pos} {fi : Env → Store → R (Z.Itr × Store)} (hc : X.calm = true) (hN : X.N.Nodup) (hy : X.N[i]? = some y) (hyl : X.env.scope.names.lookup y = some .local)
    (hsw : swapsWith (.ListComp elt [⟨tg, iter, ifs, 0⟩] scope pos) (some (.Name y py)) spos.line X.env = pure true) (hi : PI X tg iter (tEvI X.kw fi)) (ok : BlkOk X.N X.env.scope scope own) (hgo : ∀ i ∈ g, i ∈ own.map (·.2))
    (hg : ∀ (s : Shared) (H : Hp) (C : Addr) (cl : List (Str × Addr)) (fp : List Addr), PG (X.blk s H scope (compEnvC scope cl C X.env) fp) tg (gB X.kw g one)) (ht : ∀ (s : Shared) (H : Hp) (C : Addr) (cl : List (Str × Addr)) (fp : List Addr), PTs (X.blk s H scope (compEnvC scope cl C X.env) fp) ifs (tEvT X.kw fc))
    (he : ∀ (s : Shared) (H : Hp) (C : Addr) (cl : List (Str × Addr)) (fp : List Addr), PE (X.blk s H scope (compEnvC scope cl C X.env) fp) elt (tEv X.kw fa)) (hs : ∀ x, foldedSetIterable iter X.env x = pure x) :
    PS X (.Assign [.Name y py] (.ListComp elt [⟨tg, iter, ifs, 0⟩] scope pos) spos) (tEvS X.kw fun rho S => ((fi rho S).bind fun p => (compI (turnC (own.map (·.2)) g one fc fa rho) p.1 p.2).bind fun q => litD m q.1 q.2).bind fun p => .ok (.nx, rho.set i (some p.1), p.2)) := by
  refine ps_weak (ps_setLc hc hN hy hyl hsw hi ok hg ht he hs) fun D σ H ⟨al, U, S, rho, fl, rho', S', sr, er, e, q⟩ => ?_
  obtain ⟨⟨d1, S1⟩, e1, e⟩ := R.bind_ok e
  cases e
  exact comp_read hgo ⟨al, U, S, rho, d1, _, sr, er, e1, fun v1 H1 al1 n1 sr1 r1 => q _ H1 al1 n1 sr1 ((er.nxt n1).set r1 i)⟩
theorem se_comp {elt tg iter : Expr} {ifs : List Expr} {scope : Scope} {own : List (Str × Nat)} {g : List Nat} {one m : Bool} {fi : Env → Store → R (Z.Itr × Store)} (hc : X.calm = true) (hN : X.N.Nodup) (hi : PI X tg iter (tEvI X.kw fi)) (ok : BlkOk X.N X.env.scope scope own) (hgo : ∀ i ∈ g, i ∈ own.map (·.2))
    (hg : ∀ (s : Shared) (H : Hp) (C : Addr) (cl : List (Str × Addr)) (fp : List Addr), PG (X.blk s H scope (compEnvC scope cl C X.env) fp) tg (gB X.kw g one)) (ht : ∀ (s : Shared) (H : Hp) (C : Addr) (cl : List (Str × Addr)) (fp : List Addr), PTs (X.blk s H scope (compEnvC scope cl C X.env) fp) ifs (tEvT X.kw fc))
    (he : ∀ (s : Shared) (H : Hp) (C : Addr) (cl : List (Str × Addr)) (fp : List Addr), PE (X.blk s H scope (compEnvC scope cl C X.env) fp) elt (tEv X.kw fa)) (hs : ∀ x, foldedSetIterable iter X.env x = pure x) :
    PE X (.ListComp elt [⟨tg, iter, ifs, 0⟩] scope pos) (tEv X.kw fun rho S => (fi rho S).bind fun p => (compI (turnC (own.map (·.2)) g one fc fa rho) p.1 p.2).bind fun q => litD m q.1 q.2) :=
  pe_weak (pe_lc hc hN hi ok hg ht he hs) fun σ H Q h => comp_read hgo h
theorem ss_exp (he : PE X e (tEv X.kw fa)) (hs : swapsWith e none pos.line X.env = pure false) : PS X (.Expr e pos) (tEvS X.kw fun rho S => (fa rho S).bind fun p => .ok (.nx, rho, p.2)) := by
  refine ps_weak (ps_expr he hs) fun D σ H ⟨al, U, S, rho, fl, rho', S', sr, er, e, q⟩ => ?_
  obtain ⟨⟨d1, S1⟩, e1, e⟩ := R.bind_ok e
  cases e
  exact ⟨al, U, S, _, d1, _, sr, er, e1, fun v1 H1 al1 n1 sr1 r1 => q σ H1 al1 n1 sr1 (er.nxt n1)⟩
theorem ss_ite (hc : PT X c (tEvT X.kw fc)) (h1 : PSs X sts (tEvS X.kw f1)) (h2 : PSs X sts2 (tEvS X.kw f2)) : PS X (.If c sts sts2 pos) (tEvS X.kw fun rho S => (fc rho S).bind fun p => match p.1 with
    | .bl true => f1 rho p.2
    | .bl false => f2 rho p.2
    | _ => .bad) := by
  refine ps_weak (ps_if hc h1 h2) fun D σ H ⟨al, U, S, rho, fl, rho', S', sr, er, e, q⟩ => ?_
  obtain ⟨⟨d1, S1⟩, e1, e⟩ := R.bind_ok e
  simp only at e
  split at e
  · refine ⟨al, U, S, rho, true, S1, sr, er, e1, fun H1 al1 n1 sr1 => ?_⟩
    show if true = true then _ else _
    rw [if_pos rfl]
    exact ⟨al1, U, S1, rho, fl, rho', S', sr1, er.nxt n1, e, q.back sr1 n1⟩
  · refine ⟨al, U, S, rho, false, S1, sr, er, e1, fun H1 al1 n1 sr1 => ?_⟩
    show if false = true then _ else _
    rw [if_neg Bool.false_ne_true]
    exact ⟨al1, U, S1, rho, fl, rho', S', sr1, er.nxt n1, e, q.back sr1 n1⟩
  · cases e
theorem ss_ret (he : PE X e (tEv X.kw fa)) : PS X (.Return (some e) pos) (tEvS X.kw fun rho S => (fa rho S).bind fun p => .ok (.rt p.1, rho, p.2)) := by
  refine ps_weak (ps_ret he) fun D σ H ⟨al, U, S, rho, fl, rho', S', sr, er, e, q⟩ => ?_
  obtain ⟨⟨d1, S1⟩, e1, e⟩ := R.bind_ok e
  cases e
  exact ⟨al, U, S, _, d1, _, sr, er, e1, fun v1 H1 al1 n1 sr1 r1 => q v1 H1 al1 n1 sr1 r1⟩
theorem ss_pas : PS X (.Pass pos) (tEvS X.kw fun rho S => .ok (.nx, rho, S)) := by
  refine ps_weak ps_pass fun D σ H ⟨al, U, S, rho, fl, rho', S', sr, er, e, q⟩ => ?_
  cases e
  exact q σ H al .refl sr er
theorem ss_brk : PS X (.Break pos) (tEvS X.kw fun rho S => .ok (.bk, rho, S)) := by
  refine ps_weak ps_break fun D σ H ⟨al, U, S, rho, fl, rho', S', sr, er, e, q⟩ => ?_
  cases e
  exact q σ H al .refl sr er
theorem ss_cnt : PS X (.Continue pos) (tEvS X.kw fun rho S => .ok (.ct, rho, S)) := by
  refine ps_weak ps_continue fun D σ H ⟨al, U, S, rho, fl, rho', S', sr, er, e, q⟩ => ?_
  cases e
  exact q σ H al .refl sr er
theorem ss_bad : PS X st (tEvS X.kw fun _ _ => .bad) := by
  refine ps_weak ps_never fun D σ H ⟨al, U, S, rho, fl, rho', S', sr, er, e, q⟩ => ?_
  cases e
theorem sss_nil : PSs X [] (tEvS X.kw fun rho S => .ok (.nx, rho, S)) := by
  refine pss_weak pss_nil fun D σ H ⟨al, U, S, rho, fl, rho', S', sr, er, e, q⟩ => ?_
  cases e
  exact q σ H al .refl sr er
theorem sss_cons (h1 : PS X st (tEvS X.kw f1)) (h2 : PSs X sts (tEvS X.kw f2)) : PSs X (st :: sts) (tEvS X.kw fun rho S => (f1 rho S).bind fun p => match p.1 with
    | .nx => f2 p.2.1 p.2.2
    | _ => .ok p) := by
  refine pss_weak (pss_cons h1 h2) fun D σ H ⟨al, U, S, rho, fl, rho', S', sr, er, e, q⟩ => ?_
  obtain ⟨⟨fl1, rho1, S1⟩, e1, e⟩ := R.bind_ok e
  refine ⟨al, U, S, rho, fl1, rho1, S1, sr, er, e1, ?_⟩
  cases fl1 with
  | nx => exact fun σ1 H1 al1 n1 sr1 er1 => ⟨al1, U, S1, rho1, fl, rho', S', sr1, er1, e, q.back sr1 n1⟩
  | ct => cases e; exact q
  | bk => cases e; exact q
  | rt d => cases e; exact q

/-! ### loops -/
inductive RunF (f : D → Env → Store → R (Fl × Env × Store)) (it : Z.Itr) : Nat → Nat → Env → Store → Fl → Env → Store → Prop
  | stop {i : Nat} {rho : Env} {S : Store} (h : stI it i S) : RunF f it 0 i rho S .nx rho S
  | nx {k i : Nat} {rho rho1 rho2 : Env} {S S1 S2 : Store} {d : D} {fl : Fl} (h : itemI it i S = some d) (e : f d rho S = .ok (.nx, rho1, S1)) (n : RunF f it k (i + 1) rho1 S1 fl rho2 S2) : RunF f it (k + 1) i rho S fl rho2 S2
  | ct {k i : Nat} {rho rho1 rho2 : Env} {S S1 S2 : Store} {d : D} {fl : Fl} (h : itemI it i S = some d) (e : f d rho S = .ok (.ct, rho1, S1)) (n : RunF f it k (i + 1) rho1 S1 fl rho2 S2) : RunF f it (k + 1) i rho S fl rho2 S2
  | bk {k i : Nat} {rho rho1 : Env} {S S1 : Store} {d : D} (h : itemI it i S = some d) (e : f d rho S = .ok (.bk, rho1, S1)) : RunF f it (k + 1) i rho S .nx rho1 S1
  | rt {k i : Nat} {rho rho1 : Env} {S S1 : Store} {d v : D} (h : itemI it i S = some d) (e : f d rho S = .ok (.rt v, rho1, S1)) : RunF f it (k + 1) i rho S (.rt v) rho1 S1
theorem runFL {f : D → Env → Store → R (Fl × Env × Store)} : ∀ {ds es : List D} {i : Nat} {rho rho2 : Env} {S S2 : Store} {fl : Fl}, es = ds.drop i → i ≤ ds.length → forL f es rho S = .ok (fl, rho2, S2) → RunF f (.sq ds) es.length i rho S fl rho2 S2
  | ds, [], i, rho, rho2, S, S2, fl, e, hi, h => by
    cases h
    refine .stop ?_
    show ds.length ≤ i
    have := congrArg List.length e
    simp at this
    omega
  | ds, d :: es, i, rho, rho2, S, S2, fl, e, hi, h => by
    unfold forL at h
    obtain ⟨⟨f1, rho1, S1⟩, e1, h⟩ := R.bind_ok h
    have h0 : ds[i]? = some d := by
      have : (ds.drop i)[0]? = some d := by rw [← e]; rfl
      simpa using this
    obtain ⟨hi', _⟩ := List.getElem?_eq_some_iff.mp h0
    have h1 : es = ds.drop (i + 1) := by
      have : (ds.drop i).tail = ds.drop (i + 1) := by simp
      rw [← this, ← e]
      rfl
    cases f1 with
    | nx => exact .nx (it := .sq ds) h0 e1 (runFL h1 (by omega) h)
    | ct => exact .ct (it := .sq ds) h0 e1 (runFL h1 (by omega) h)
    | bk => cases h; exact .bk (it := .sq ds) h0 e1
    | rt v => cases h; exact .rt (it := .sq ds) h0 e1
theorem runFR {f : D → Env → Store → R (Fl × Env × Store)} {n len : Nat} : ∀ {m i : Nat} {rho rho2 : Env} {S S2 : Store} {fl : Fl}, i + m = len → forR f n len m i rho S = .ok (fl, rho2, S2) → RunF f (.rf n) m i rho S fl rho2 S2
  | 0, i, rho, rho2, S, S2, fl, e, h => by
    unfold forR at h
    split at h
    · rename_i ds eo
      split at h
      · rename_i hl
        cases h
        exact .stop ⟨ds, eo, by omega⟩
      · cases h
    · cases h
  | m + 1, i, rho, rho2, S, S2, fl, e, h => by
    unfold forR at h
    split at h
    · rename_i ds eo
      split at h
      · rename_i hl
        split at h
        · rename_i d hd
          obtain ⟨⟨f1, rho1, S1⟩, e1, h⟩ := R.bind_ok h
          have h0 : itemI (.rf n) i S = some d := by simp only [itemI, eo]; exact hd
          cases f1 with
          | nx => exact .nx h0 e1 (runFR (by omega) h)
          | ct => exact .ct h0 e1 (runFR (by omega) h)
          | bk => cases h; exact .bk h0 e1
          | rt v => cases h; exact .rt h0 e1
        · cases h
      · cases h
    · cases h
theorem runFI {f : D → Env → Store → R (Fl × Env × Store)} {it : Z.Itr} {rho rho2 : Env} {S S2 : Store} {fl : Fl} (h : forI f it rho S = .ok (fl, rho2, S2)) : ∃ k, RunF f it k 0 rho S fl rho2 S2 := by
  cases it with
  | sq ds => exact ⟨_, runFL (i := 0) (by simp) (Nat.zero_le _) h⟩
  | rf n =>
    unfold forI at h
    simp only at h
    split at h
    · exact ⟨_, runFR (by omega) h⟩
    · cases h
theorem ss_for {iter : Expr} {fi : Env → Store → R (Z.Itr × Store)} {g : List Nat} {one : Bool} (hp : PassesOwn (model X.prog X.w) X.A X.env X.xe) (hc : X.calm = true) (hi : PI X a iter (tEvI X.kw fi)) (hg : PG X a (gB X.kw g one)) (hb : PSs X sts (tEvS X.kw f1)) (hs : ∀ x, foldedSetIterable iter X.env x = pure x) :
    PS X (.For a iter sts [] pos) (tEvS X.kw fun rho S => (fi rho S).bind fun p => forI (fun d rho S => (bindG g one d rho).bind fun rho' => f1 rho' S) p.1 rho p.2) := by
  refine ps_weak (ps_for hp hc hi hg hb hs) fun D σ H ⟨al, U, S, rho, fl, rho', S', sr, er, e, q⟩ => ?_
  obtain ⟨⟨it, S1⟩, e1, e⟩ := R.bind_ok e
  obtain ⟨k0, run⟩ := runFI e
  refine ⟨al, U, S, rho, it, S1, sr, er, e1, fun J H1 al1 n1 sr1 ok => ?_⟩
  have q1 := q.back sr1 n1
  refine ⟨fun i k σc Hc => ∃ alc Sc rhoc, SR X.kw alc U Sc Hc ∧ Nxt al1 S1.length H1 alc Sc.length Hc ∧ ER X.kw alc Sc.length U Hc rhoc σc ∧
      RunF (fun d rho S => (bindG g one d rho).bind fun rho' => f1 rho' S) it k i rhoc Sc fl rho' S', ⟨k0, al1, S1, rho, sr1, .refl, er.nxt n1, run⟩, ?_⟩
  rintro i k σc Hc ⟨alc, Sc, rhoc, src, nc, erc, runc⟩
  obtain ⟨ok1, ok2⟩ := ok i alc U Sc Hc (fun u hm => .inl hm) src nc
  have q2 := q1.back src nc
  cases runc with
  | stop hst => exact .inl ⟨ok2 hst, q2 σc Hc alc .refl src erc⟩
  | nx hit ef runn =>
    rename_i k' rho1 Sd d
    obtain ⟨hiz, go, yl⟩ := ok1 d hit
    refine .inr ⟨go, fun σn Hn => ∃ alc Sc rhoc, SR X.kw alc U Sc Hn ∧ Nxt al1 S1.length H1 alc Sc.length Hn ∧ ER X.kw alc Sc.length U Hn rhoc σn ∧
      RunF (fun d rho S => (bindG g one d rho).bind fun rho' => f1 rho' S) it k' (i + 1) rhoc Sc fl rho' S', fun σ' H' h => ⟨k', Nat.lt_succ_self _, h⟩, fun x H' hy => ?_⟩
    obtain ⟨ny, sry, rx⟩ := yl x H' hy
    obtain ⟨rhob, eb, ef⟩ := R.bind_ok ef
    exact gB_rep rx (erc.nxt ny) eb fun σ2 er2 _ _ => ⟨alc, U, Sc, rhob, .nx, _, _, sry, er2, ef, fun σ3 H3 al3 n3 sr3 er3 => ⟨al3, _, _, sr3, sry.trans (src.trans nc ny) n3, er3, runn⟩⟩
  | ct hit ef runn =>
    rename_i k' rho1 Sd d
    obtain ⟨hiz, go, yl⟩ := ok1 d hit
    refine .inr ⟨go, fun σn Hn => ∃ alc Sc rhoc, SR X.kw alc U Sc Hn ∧ Nxt al1 S1.length H1 alc Sc.length Hn ∧ ER X.kw alc Sc.length U Hn rhoc σn ∧
      RunF (fun d rho S => (bindG g one d rho).bind fun rho' => f1 rho' S) it k' (i + 1) rhoc Sc fl rho' S', fun σ' H' h => ⟨k', Nat.lt_succ_self _, h⟩, fun x H' hy => ?_⟩
    obtain ⟨ny, sry, rx⟩ := yl x H' hy
    obtain ⟨rhob, eb, ef⟩ := R.bind_ok ef
    exact gB_rep rx (erc.nxt ny) eb fun σ2 er2 _ _ => ⟨alc, U, Sc, rhob, .ct, _, _, sry, er2, ef, fun σ3 H3 al3 n3 sr3 er3 => ⟨al3, _, _, sr3, sry.trans (src.trans nc ny) n3, er3, runn⟩⟩
  | bk hit ef =>
    rename_i k' d _
    obtain ⟨hiz, go, yl⟩ := ok1 d hit
    refine .inr ⟨go, fun _ _ => False, fun σ' H' h => h.elim, fun x H' hy => ?_⟩
    obtain ⟨ny, sry, rx⟩ := yl x H' hy
    obtain ⟨rhob, eb, ef⟩ := R.bind_ok ef
    exact gB_rep rx (erc.nxt ny) eb fun σ2 er2 _ _ => ⟨alc, U, Sc, rhob, .bk, _, _, sry, er2, ef, fun σ3 H3 al3 n3 sr3 er3 => q2 σ3 H3 al3 (sry.trans ny n3) sr3 er3⟩
  | rt hit ef =>
    rename_i k' d v _
    obtain ⟨hiz, go, yl⟩ := ok1 d hit
    refine .inr ⟨go, fun _ _ => False, fun σ' H' h => h.elim, fun x H' hy => ?_⟩
    obtain ⟨ny, sry, rx⟩ := yl x H' hy
    obtain ⟨rhob, eb, ef⟩ := R.bind_ok ef
    exact gB_rep rx (erc.nxt ny) eb fun σ2 er2 _ _ => ⟨alc, U, Sc, rhob, .rt v, _, _, sry, er2, ef, fun v3 H3 al3 n3 sr3 r3 => q2 v3 H3 al3 (sry.trans ny n3) sr3 r3⟩
theorem ss_whl {fuel : Nat} (hp : PassesOwn (model X.prog X.w) X.A X.env X.xe) (hc : PT X c (tEvT X.kw fc)) (hb : PSs X sts (tEvS X.kw f1)) : PS X (.While c sts [] pos) (tEvS X.kw fun rho S => whlN fc f1 fuel rho S) := by
  refine ps_weak (ps_while hp hc hb) fun D σ H ⟨al, U, S, rho, fl, rho', S', sr, er, e, q⟩ => ?_
  refine ⟨fun k σc Hc => ∃ alc Sc rhoc, SR X.kw alc U Sc Hc ∧ Nxt al S.length H alc Sc.length Hc ∧ ER X.kw alc Sc.length U Hc rhoc σc ∧ whlN fc f1 k rhoc Sc = .ok (fl, rho', S'), ⟨fuel, al, S, rho, sr, .refl, er, e⟩, ?_⟩
  rintro k σc Hc ⟨alc, Sc, rhoc, src, nc, erc, run⟩
  cases k with
  | zero => cases run
  | succ k =>
    have q2 := q.back src nc
    unfold whlN at run
    obtain ⟨⟨b, S1⟩, e1, run⟩ := R.bind_ok run
    simp only at run
    split at run
    · refine ⟨alc, U, Sc, rhoc, true, S1, src, erc, e1, fun H1 al1 n1 sr1 => ?_⟩
      show if true = true then _ else _
      rw [if_pos rfl]
      obtain ⟨⟨f2, rho2, S2⟩, e2, run⟩ := R.bind_ok run
      refine ⟨fun σn Hn => ∃ alc Sc rhoc, SR X.kw alc U Sc Hn ∧ Nxt al S.length H alc Sc.length Hn ∧ ER X.kw alc Sc.length U Hn rhoc σn ∧ whlN fc f1 k rhoc Sc = .ok (fl, rho', S'), fun σ' H' h => ⟨k, Nat.lt_succ_self _, h⟩, al1, U, S1, rhoc, f2, rho2, S2, sr1, erc.nxt n1, e2, ?_⟩
      cases f2 with
      | nx => exact fun σ3 H3 al3 n3 sr3 er3 => ⟨al3, S2, rho2, sr3, sr1.trans (src.trans nc n1) n3, er3, run⟩
      | ct => exact fun σ3 H3 al3 n3 sr3 er3 => ⟨al3, S2, rho2, sr3, sr1.trans (src.trans nc n1) n3, er3, run⟩
      | bk => cases run; exact fun σ3 H3 al3 n3 sr3 er3 => q2 σ3 H3 al3 (sr1.trans n1 n3) sr3 er3
      | rt v => cases run; exact fun v3 H3 al3 n3 sr3 r3 => q2 v3 H3 al3 (sr1.trans n1 n3) sr3 r3
    · cases run
      refine ⟨alc, U, Sc, _, false, _, src, erc, e1, fun H1 al1 n1 sr1 => ?_⟩
      show if false = true then _ else _
      rw [if_neg Bool.false_ne_true]
      exact q2 σc H1 al1 n1 sr1 (erc.nxt n1)
    · cases run

/-! ### calls -/
def spOf (K : KW) (P : Pg) (k : Nat) (f : Str) : Sp := fun vs H Q _ => ∃ al U S ds d S', SR K al U S H ∧ Reps K al S.length U H ds vs ∧ callF P k f ds S = .ok (d, S') ∧
  ∀ v H' al', Nxt al S.length H al' S'.length H' → SR K al' U S' H' → Rep K al' S'.length U H' d v → Q v H'
theorem se_call {P : Pg} {k : Nat} {x : Str} {f : Addr} {fd : FuncData} {ps : List Str} (F : FnOk X.prog X.w X.kw X.mg X.base CX0 k f fd ps (spOf X.kw P k x)) (hr : Room k X.A) (hg : Gl X x) (hm : X.mg x = some (.ref f)) (hk : PySem.W.keepIn X.kw (.ref f) = true) (hb : Binds X.kw fd ps [])
    (ha : PA X (e :: es) (tEvs X.kw fs)) (hdb : (x == ("__debug__" : Str)) = false) (he : starEach (e :: es) X.env = (false, eval e X.env) :: starEach es X.env) (hpl : (backTo pos (starEach es X.env)).any (·.1) = false) :
    PE X (.Call (.Name x p) (e :: es) [] pos) (tEv X.kw fun rho S => (fs rho S).bind fun p => callF P k x p.1 p.2) := by
  refine pe_weak (pe_call F hr hg hm hk hb .nil pass0 ha hdb he hpl) fun σ H Q ⟨al, U, S, rho, d, S', sr, er, e, q⟩ => ?_
  obtain ⟨⟨d1, S1⟩, e1, e⟩ := R.bind_ok e
  refine ⟨al, U, S, rho, d1, S1, sr, er, e1, fun vs H1 al1 n1 sr1 r1 => ?_⟩
  show spOf X.kw P k x (vs ++ []) H1 Q E0
  rw [List.append_nil]
  exact ⟨al1, U, S1, d1, d, S', sr1, r1, e, fun v2 H2 al2 n2 sr2 r2 => q v2 H2 al2 (sr1.trans n1 n2) sr2 r2⟩
theorem se_call0 {P : Pg} {k : Nat} {x : Str} {f : Addr} {fd : FuncData} {ps : List Str} (F : FnOk X.prog X.w X.kw X.mg X.base CX0 k f fd ps (spOf X.kw P k x)) (hr : Room k X.A) (hg : Gl X x) (hm : X.mg x = some (.ref f)) (hk : PySem.W.keepIn X.kw (.ref f) = true) (hb : Binds X.kw fd ps []) (hdb : (x == ("__debug__" : Str)) = false) :
    PE X (.Call (.Name x p) [] [] pos) (tEv X.kw fun rho S => callF P k x [] S) := by
  refine pe_weak (pe_call0 F hr hg hm hk hb .nil pass0 hdb) fun σ H Q ⟨al, U, S, rho, d, S', sr, er, e, q⟩ => ?_
  exact ⟨al, U, S, [], d, S', sr, by simp only [Reps]; rfl, e, q⟩
/-- a local name that holds a def, called -/
theorem se_callv {P : Pg} {k i : Nat} {x : Str} (A : ∀ y f ds S r, PySem.W.nsIn X.kw.K mainGlobals y = some (some (.ref f)) → callF P k y ds S = .ok r → L2.Held X.prog X.w X.kw X.mg X.base k f (spOf X.kw P k y)) (hr : Room k X.A) (hN : X.N[i]? = some x) (hv : Vis X.env.scope x)
    (ha : PA X (e :: es) (tEvs X.kw fs)) (hdb : (x == ("__debug__" : Str)) = false) (hcd : (x == ("__classdict__" : Str)) = false) (he : starEach (e :: es) X.env = (false, eval e X.env) :: starEach es X.env) (hpl : (backTo pos (starEach es X.env)).any (·.1) = false) :
    PE X (.Call (.Name x p) (e :: es) [] pos) (tEv X.kw fun rho S => match rho[i]? with
      | some (some (.fn y)) => (fs rho S).bind fun p => callF P k y p.1 p.2
      | _ => .bad) := by
  refine ⟨fun pins s σ H Q I ⟨al, U, S, rho, d, S', sr, er, e0, q⟩ => ?_⟩
  simp only at e0
  split at e0
  · rename_i y hy
    obtain ⟨⟨d1, S1⟩, e1, e2⟩ := R.bind_ok e0
    obtain ⟨v, hs, rv⟩ := er.2 i _ hy
    simp only [Rep] at rv
    obtain ⟨f, rfl, hf⟩ := rv
    obtain ⟨fd, ps, F, hk, hb⟩ := (A y f d1 S1 _ hf e2).ex
    refine (L2.pe_callL (i := i) (f := f) (sp := spOf X.kw P k y) (dvs := []) (E := fun _ _ _ => False) F hr hN hv hk hb .nil (fun _ _ _ _ _ _ _ z => z.elim) ha hdb hcd he hpl).run pins s σ H Q I ⟨hs, ?_⟩
    refine ⟨al, U, S, rho, d1, S1, sr, er, e1, fun vs H1 al1 n1 sr1 r1 => ?_⟩
    show spOf X.kw P k y (vs ++ []) H1 Q E0
    rw [List.append_nil]
    exact ⟨al1, U, S1, d1, d, S', sr1, r1, e2, fun v2 H2 al2 n2 sr2 r2 => q v2 H2 al2 (sr1.trans n1 n2) sr2 r2⟩
  · cases e0
/-- a built-in function, type, by values -/
theorem tEv_call {g : List D → Store → R (D × Store)} {r : List V → Hp → VK → Prop} (hr : ∀ xs H Q, rC X.kw g xs H Q → r xs H Q) {σ : L2.St} {H : Hp} {Q : VK} (h : tEv X.kw (fun rho S => (fs rho S).bind fun p => g p.1 p.2) σ H Q) : tEvs X.kw fs σ H fun xs H1 => r xs H1 Q := by
  obtain ⟨al, U, S, rho, d, S', sr, er, e, q⟩ := h
  obtain ⟨⟨d1, S1⟩, e1, e⟩ := R.bind_ok e
  exact ⟨al, U, S, rho, d1, S1, sr, er, e1, fun vs H1 al1 n1 sr1 r1 => hr _ _ _ ⟨al1, U, S1, d1, d, S', sr1, r1, e, fun v2 H2 al2 n2 sr2 r2 => q v2 H2 al2 (sr1.trans n1 n2) sr2 r2⟩⟩
end
end Z

set_option Elab.async false
set_option linter.all false
set_option maxRecDepth 100000
set_option maxHeartbeats 4000000
/-! Chk: which code stands for which text; it says what the model does: expressions. -/
namespace Z
open PySem L2 PySem.Spec PyProof.Rows

theorem R.bind_assoc {A B C : Type} (r : R A) (f : A → R B) (g : B → R C) : R.bind (R.bind r f) g = R.bind r fun a => R.bind (f a) g := by
  cases r <;> rfl

/-- what a text leans on: names of what is built in, of defs, of constants -/
structure Tab where
  bl : List Str
  fn : List Str
  gl : List Str
def visC (sc : Scope) (x : Str) : Bool := match sc.names.lookup x with
  | some .local => true
  | some .cell => true
  | some .free => true
  | _ => false
def locC (sc : Scope) (x : Str) : Bool := match sc.names.lookup x with
  | some .local => true
  | some .cell => true
  | _ => false
def gloC (sc : Scope) (x : Str) : Bool := match sc.names.lookup x with
  | some .globalImplicit => true
  | _ => false
def okN (x : Str) : Bool := !(x == ("__debug__" : Str)) && !(x == ("__classdict__" : Str)) && !decide (x = ("__name__" : Str))
def notStar : Expr → Bool
  | .Starred _ _ => false
  | _ => true
def notSet : Expr → Bool
  | .Set _ _ _ => false
  | _ => true
def isTupE : Expr → Bool
  | .Tuple _ _ _ => true
  | _ => false
def notSlice : Expr → Bool
  | .Slice _ _ _ _ => false
  | _ => true
def notCall0 : Expr → Bool
  | .Call (.Name _ _) [] [] _ => false
  | _ => true
def btName : Bt → Str
  | .len => "len" | .tuple => "tuple" | .list => "list" | .listRg => "list" | .tupRg => "tuple" | .divmod => "divmod" | .sorted => "sorted" | .sortedSet => "sorted" | .lenSet => "len" | .inRg => "range" | .notInRg => "range" | .max2 => "max" | .min2 => "min" | .dict => "dict" | .dictN => "dict"
  | .all => "all" | .any => "any" | .sum => "sum" | .int => "int" | .isTy _ => "isinstance"
def btPlain : Bt → Bool
  | .len | .tuple | .list | .divmod | .sorted | .max2 | .min2 | .all | .any | .dict | .dictN | .int => true
  | _ => false
def tyN' (t : Ty) : Str := Str.ofString (tyN t)
def mtName : Mt → Str
  | .join => "join" | .append => "append" | .index => "index" | .indexT => "index" | .extend => "extend" | .get2 => "get" | .upper => "upper"
def mtPlain : Mt → Bool
  | .join | .append | .index | .indexT | .extend | .get2 => true
  | _ => false
def isYes : E → Bool
  | .con (.bl true) => true
  | _ => false
def chkD : D → Const → Bool
  | .non, .none => true
  | .bl b, .bool c => b == c
  | .int i, .int j => i == j
  | .str s, .str x => decide (x = toS s) && decide (s.length ≤ 10000)
  | _, _ => false
def chkNames (N : List Str) (sc : Scope) : List Nat → List Expr → Bool
  | [], [] => true
  | i :: is, .Name x _ :: es => decide (N[i]? = some x) && locC sc x && chkNames N sc is es
  | _, _ => false
/-- a loop's target -/
def chkT (N : List Str) (sc : Scope) (g : List Nat) (one : Bool) (tg : Expr) : Bool :=
  if one then (match g, tg with
    | [i], .Name x _ => decide (N[i]? = some x) && locC sc x
    | _, _ => false)
  else match tg with
    | .Tuple es _ _ => chkNames N sc g es
    | _ => false
def ownP (N : List Str) (own : List Nat) : List (Str × Nat) := own.map fun i => (N.getD i Str.empty, i)

mutual
def chkE (T : Tab) (N : List Str) (sc : Scope) : E → Expr → Bool
  | .var i, e => match e with
    | .Name x _ => decide (N[i]? = some x) && visC sc x && okN x
    | _ => false
  | .con d, e => match e with
    | .Constant c _ _ => chkD d c
    | _ => false
  | .glo x, e => match e with
    | .Name y _ => decide (x = y) && gloC sc y && okN y && T.gl.contains x
    | _ => false
  | .tup cs, e => match e with
    | .Tuple es _ _ => chkEs T N sc cs es && decide (es.length ≤ 1000)
    | _ => false
  | .lst _ cs, e => match e with
    | .List es _ => chkEs T N sc cs es && decide (es.length ≤ 1000)
    | _ => false
  | .dct ks vs, e => match ks, vs, e with
    | [], [], .Dict [] [] _ => true
    | _, _, _ => false
  | .dcn ks vs, e => match ks, vs, e with
    | [], [], .Dict [] [] _ => true
    | [a], [b], .Dict [some a'] [b'] _ => chkE T N sc a a' && chkE T N sc b b'
    | _, _, _ => false
  | .bin o a b, e => match e with
    | .BinOp a' op b' _ => decide (op = opA o) && chkE T N sc a a' && chkE T N sc b b'
    | _ => false
  | .neg a, e => match e with
    | .UnaryOp .USub a' _ => chkE T N sc a a'
    | _ => false
  | .not a, e => match e with
    | .UnaryOp .Not a' _ => chkE T N sc a a'
    | _ => false
  | .and cs, e => match e with
    | .BoolOp .And es _ => chkEs T N sc cs es
    | _ => false
  | .or cs, e => match e with
    | .BoolOp .Or es _ => chkEs T N sc cs es
    | _ => false
  | .orv a b, e => match e with
    | .BoolOp .Or [a', b'] _ => chkE T N sc a a' && chkE T N sc b b'
    | _ => false
  | .cmp o a b, e => match e with
    | .Compare a' [op] [b'] _ => decide (op = cmA o) && notSet b' && chkE T N sc a a' && chkE T N sc b b'
    | _ => false
  | .chain o o' a b c, e => match e with
    | .Compare a' [op, op'] [b', c'] _ => decide (op = cmA o) && decide (op' = cmA o') && notSet b' && notSet c' && chkE T N sc a a' && chkE T N sc b b' && chkE T N sc c c'
    | _ => false
  | .ix a i, e => match e with
    | .Subscript a' i' _ => notSlice i' && chkE T N sc a a' && chkE T N sc i i'
    | _ => false
  | .sl _ a l lo h hi, e => match e with
    | .Subscript a' (.Slice lo' hi' none _) _ => chkE T N sc a a' &&
        (match lo' with
        | none => !l
        | some x => l && chkE T N sc lo x) &&
        (match hi' with
        | none => !h
        | some x => h && chkE T N sc hi x)
    | _ => false
  | .rev a, e => match e with
    | .Subscript a' (.Slice none none (some (.UnaryOp .USub (.Constant (.int 1) _ _) _)) _) _ => chkE T N sc a a'
    | _ => false
  | .no, _ => false
  | .call f cs, e => match e with
    | .Call (.Name x _) es [] _ => decide (f = x) && gloC sc x && okN x && T.fn.contains f && chkEs T N sc cs es
    | _ => false
  | .callv i cs, e => match e with
    | .Call (.Name x _) (e' :: es') [] _ => decide (N[i]? = some x) && visC sc x && okN x && chkEs T N sc cs (e' :: es')
    | _ => false
  | .blt _ b cs, e => match e with
    | .Call (.Name x _) es [] _ => (match b, es with
        | .isTy t, [a', .Name y _] => decide (x = btName b) && gloC sc x && T.bl.contains x && decide (y = tyN' t) && gloC sc y && T.bl.contains y && okN y && !decide (t = .non) && notStar a' && chkEs T N sc cs [a']
        | .listRg, [.Call (.Name y _) [a'] [] _] => decide (x = ("list" : Str)) && gloC sc x && T.bl.contains x && okN x && decide (y = ("range" : Str)) && gloC sc y && T.bl.contains y && notStar a' && chkEs T N sc cs [a']
        | .tupRg, [.Call (.Name y _) [a'] [] _] => decide (x = ("tuple" : Str)) && gloC sc x && T.bl.contains x && okN x && decide (y = ("range" : Str)) && gloC sc y && T.bl.contains y && notStar a' && chkEs T N sc cs [a']
        | .sortedSet, [.Call (.Name y _) [a'] [] _] => decide (x = ("sorted" : Str)) && gloC sc x && T.bl.contains x && decide (y = ("set" : Str)) && gloC sc y && T.bl.contains y && notStar a' && chkEs T N sc cs [a']
        | .lenSet, [.Call (.Name y _) [a'] [] _] => decide (x = ("len" : Str)) && gloC sc x && T.bl.contains x && decide (y = ("set" : Str)) && gloC sc y && T.bl.contains y && notStar a' && chkEs T N sc cs [a']
        | _, e' :: es' => decide (x = btName b) && btPlain b && gloC sc x && okN x && T.bl.contains x && chkEs T N sc cs (e' :: es')
        | _, _ => false)
    | .Compare a' [op] [.Call (.Name y _) [b'] [] _] _ => (match b with
        | .inRg => decide (op = .In) && decide (y = ("range" : Str)) && gloC sc y && T.bl.contains y && notStar b' && chkEs T N sc cs [a', b']
        | .notInRg => decide (op = .NotIn) && decide (y = ("range" : Str)) && gloC sc y && T.bl.contains y && notStar b' && chkEs T N sc cs [a', b']
        | _ => false)
    | _ => false
  | .mth t o cs, e => match e with
    | .Call (.Attribute o' name apos) [] [] cpos => (match t, cs with
        | .upper, [] => decide (name = ("upper" : Str)) && notCall0 o' && (apos.endLine == cpos.line) && chkE T N sc o o'
        | _, _ => false)
    | .Call (.Attribute o' name apos) (e' :: es') [] cpos => decide (name = mtName t) && mtPlain t && notCall0 o' && (apos.endLine == cpos.line) && decide (es'.length < 20) && chkE T N sc o o' && chkEs T N sc cs (e' :: es')
    | _ => false
  | .comp _ own g one k its c e, e0 => match e0 with
    | .ListComp elt gens scope _ => match gens with
      | [⟨tg, iter, ifs, as⟩] => decide (as = 0) && blkC N sc scope (ownP N own) && (g.all fun i => own.contains i) && chkT N scope g one tg && chkI T N sc k tg its iter &&
          (match ifs with
          | [] => isYes c
          | [c'] => chkE T N scope c c'
          | _ => false) && chkE T N scope e elt
      | _ => false
    | _ => false
def chkEs (T : Tab) (N : List Str) (sc : Scope) : List E → List Expr → Bool
  | [], es => match es with
    | [] => true
    | _ => false
  | c :: cs, es => match es with
    | e :: es => notStar e && chkE T N sc c e && chkEs T N sc cs es
    | _ => false
def chkI (T : Tab) (N : List Str) (sc : Scope) (k : IK) (tg : Expr) : List E → Expr → Bool
  | [], _ => false
  | [c], iter => match k with
    | .sq => notSet iter && chkE T N sc c iter
    | .rng1 => match iter with
      | .Call (.Name x _) [a] [] _ => decide (x = ("range" : Str)) && gloC sc x && T.bl.contains x && notStar a && chkE T N sc c a
      | _ => false
    | _ => false
  | [c, d], iter => match k with
    | .rng2 => match iter with
      | .Call (.Name x _) [a, b] [] _ => decide (x = ("range" : Str)) && gloC sc x && T.bl.contains x && notStar a && notStar b && chkE T N sc c a && chkE T N sc d b
      | _ => false
    | .zip2 => match iter with
      | .Call (.Name x _) [a, b] [] _ => decide (x = ("zip" : Str)) && gloC sc x && T.bl.contains x && notStar a && notStar b && isTupE tg && chkE T N sc c a && chkE T N sc d b
      | _ => false
    | _ => false
  | [c, d, f], iter => match k with
    | .rng3 => match iter with
      | .Call (.Name x _) [a, b, g] [] _ => decide (x = ("range" : Str)) && gloC sc x && T.bl.contains x && notStar a && notStar b && notStar g && chkE T N sc c a && chkE T N sc d b && chkE T N sc f g
      | _ => false
    | _ => false
  | _ :: _ :: _ :: _ :: _, _ => false
end
end Z

set_option Elab.async false
set_option linter.all false
set_option maxRecDepth 100000
set_option maxHeartbeats 4000000
/-! Snd: what the code says is what the model does: expressions. -/
namespace Z
open PySem L2 PySem.Spec PyProof.Rows

/-- a context in which codes are right -/
structure Cok (P : Pg) (T : Tab) (k : Nat) (N : List Str) (sc : Scope) (X : Cx) : Prop where
  n : X.N = N
  nd : N.Nodup
  vis : ∀ x, visC sc x = true → Vis X.env.scope x
  loc : ∀ x, locC sc x = true → Loc X.env.scope x ∧ (X.fn x = true ∨ X.env.scope.names.lookup x = some .local)
  cel : ∀ x, (sc.names.lookup x = some .cell ∨ sc.names.lookup x = some .free) → (X.env.scope.names.lookup x = some .cell ∨ X.env.scope.names.lookup x = some .free)
  glb : ∀ x, gloC sc x = true → Gl X x
  calm : X.calm = true
  room : Room k X.A
  blt : ∀ x ∈ T.bl, X.mg x = none
  fn : ∀ x ∈ T.fn, ∃ f fd ps, FnOk X.prog X.w X.kw X.mg X.base CX0 k f fd ps (spOf X.kw P k x) ∧ X.mg x = some (.ref f) ∧ PySem.W.keepIn X.kw (.ref f) = true ∧ Binds X.kw fd ps []
  glo : ∀ x ∈ T.gl, ∃ v u d, P.glo x = some d ∧ X.mg x = some u ∧ RelV v u ∧ ∀ al n U H, Rep X.kw al n U H d v
  nsf : ∀ x f, PySem.W.nsIn X.K mainGlobals x = some (some (.ref f)) → X.mg x = some (.ref f)
  tfn : ∀ x d, P.fn x = some d → x ∈ T.fn

theorem okN_1 {x : Str} (h : okN x = true) : (x == ("__debug__" : Str)) = false ∧ (x == ("__classdict__" : Str)) = false ∧ x ≠ ("__name__" : Str) := by
  unfold okN at h
  simp only [Bool.and_eq_true, Bool.not_eq_true', decide_eq_false_iff_not] at h
  exact ⟨h.1.1, h.1.2, h.2⟩
theorem star_of {e : Expr} {es : List Expr} {env : PySem.Env} (h : notStar e = true) : starEach (e :: es) env = (false, eval e env) :: starEach es env := by
  cases e <;> first | rfl | cases h
end Z
namespace Z
open PySem L2 PySem.Spec PyProof.Rows
theorem nomark_of {op : CmpOp} {e : Expr} (h : notSet e = true) : behindInMarks op e = false := by
  cases e <;> first | rfl | cases h
theorem lastMarks_of {o o' : CmpOp} {b c : Expr} (h : notSet c = true) : lastMarks [o, o'] [b, c] = false := nomark_of h
theorem plainIx_of {e : Expr} (h : notSlice e = true) : PlainIx e := fun o i => by
  cases e <;> first | rfl | cases h
theorem fold_of {e : Expr} {env : PySem.Env} (h : notSet e = true) : ∀ x, foldedSetIterable e env x = pure x := fun x => by
  cases e <;> first | rfl | cases h
theorem backTo_of {pos : Pos} : ∀ (es : List Expr) (env : PySem.Env), (∀ e ∈ es, notStar e = true) → (backTo pos (starEach es env)).any (·.1) = false
  | [], _, _ => rfl
  | e :: es, env, h => by
    rw [star_of (h e List.mem_cons_self)]
    show (false || (backTo pos (starEach es env)).any (·.1)) = false
    rw [backTo_of es env fun x hx => h x (List.mem_cons_of_mem _ hx)]
    rfl
theorem chkEs_star {T : Tab} {N : List Str} {sc : Scope} : ∀ {cs : List E} {es : List Expr}, chkEs T N sc cs es = true → (∀ e ∈ es, notStar e = true) ∧ es.length = cs.length
  | [], es, h => by
    unfold chkEs at h
    split at h
    · exact ⟨fun _ h => (nomatch h), rfl⟩
    · cases h
  | c :: cs, es, h => by
    unfold chkEs at h
    split at h
    · rename_i e es'
      simp only [Bool.and_eq_true] at h
      obtain ⟨a, b⟩ := chkEs_star h.2
      refine ⟨fun x hx => ?_, by simp [b]⟩
      rcases List.mem_cons.mp hx with rfl | hx
      · exact h.1.1
      · exact a x hx
    · cases h
theorem base_of {o : Expr} {name : Str} {env : PySem.Env} (h : notCall0 o = true) : attributeBase o name env (eval o env) = eval o env := by
  cases o with
  | Call f args kws pos =>
    cases f with
    | Name id p =>
      cases args with
      | nil =>
        cases kws with
        | nil => cases h
        | cons _ _ => rfl
      | cons _ _ => rfl
    | _ => rfl
  | _ => rfl
theorem evEs_len {G : Ctx} : ∀ {cs : List E} {rho : Env} {S : Store} {p : List D × Store}, evEs G cs rho S = .ok p → p.1.length = cs.length
  | [], _, _, _, h => by
    simp only [evEs] at h
    cases h
    rfl
  | c :: cs, rho, S, p, h => by
    simp only [evEs] at h
    obtain ⟨p1, e1, h⟩ := R.bind_ok h
    obtain ⟨p2, e2, h⟩ := R.bind_ok h
    cases h
    simp [evEs_len e2]
theorem relabel_lookup {scope : Scope} {env : PySem.Env} {x : Str} {k : NameKind} (h : scope.names.lookup x = some k) : (relabel scope env).names.lookup x = some k ∨ (k = .free ∧ (relabel scope env).names.lookup x = some .cell) := by
  unfold relabel
  simp only
  have : ∀ (names : List (Str × NameKind)), names.lookup x = some k →
      (names.map fun (n, k) => if (k == NameKind.free && env.scope.kind == .function && env.kindOf n == some .cell) then (n, NameKind.cell) else (n, k)).lookup x = some k ∨
      (k = .free ∧ (names.map fun (n, k) => if (k == NameKind.free && env.scope.kind == .function && env.kindOf n == some .cell) then (n, NameKind.cell) else (n, k)).lookup x = some .cell) := by
    intro names
    induction names with
    | nil => intro h; simp at h
    | cons p r ih =>
      obtain ⟨n, k'⟩ := p
      intro h
      rw [List.map_cons]
      dsimp only
      cases hx : x == n with
      | true =>
        simp only [List.lookup_cons, hx, Option.some.injEq] at h
        subst h
        by_cases hc : (k' == NameKind.free && env.scope.kind == .function && env.kindOf n == some .cell) = true
        · rw [if_pos hc]
          simp only [Bool.and_eq_true, beq_iff_eq] at hc
          exact .inr ⟨hc.1.1, by simp only [List.lookup_cons, hx]⟩
        · rw [if_neg hc]
          exact .inl (by simp only [List.lookup_cons, hx])
      | false =>
        simp only [List.lookup_cons, hx] at h
        by_cases hc : (k' == NameKind.free && env.scope.kind == .function && env.kindOf n == some .cell) = true
        · rw [if_pos hc]; simp only [List.lookup_cons, hx]; exact ih h
        · rw [if_neg hc]; simp only [List.lookup_cons, hx]; exact ih h
  exact this scope.names h
section
variable {P : Pg} {T : Tab} {k : Nat} {N : List Str} {sc : Scope} {X : Cx}
theorem Cok.blk {scope : Scope} {own : List (Str × Nat)} (h : Cok P T k N sc X) (s : Shared) (H : Hp) (C : Addr) (cl : List (Str × Addr)) (fp : List Addr) : Cok P T k N scope (X.blk s H scope (compEnvC scope cl C X.env) fp) := by
  refine ⟨h.n, h.nd, fun x hx => ?_, fun x hx => ?_, fun x hx => ?_, fun x hx => ?_, h.calm, h.room, h.blt, h.fn, h.glo, h.nsf, h.tfn⟩
  · unfold visC at hx
    split at hx <;> first | cases hx | skip
    all_goals (rename_i hl; rcases relabel_lookup (env := X.env) hl with z | ⟨z1, z2⟩)
    · exact .inl z
    · cases z1
    · exact .inr (.inl z)
    · cases z1
    · exact .inr (.inr z)
    · exact .inr (.inl z2)
  · unfold locC at hx
    split at hx <;> first | cases hx | skip
    all_goals (rename_i hl; rcases relabel_lookup (env := X.env) hl with z | ⟨z1, z2⟩)
    · exact ⟨.inl z, .inr z⟩
    · cases z1
    · exact ⟨.inr z, .inl (by show (scope.names.lookup x == some .cell) = true; rw [hl]; rfl)⟩
    · cases z1
  · rcases hx with hl | hl
    · rcases relabel_lookup (env := X.env) hl with z | ⟨z1, z2⟩
      · exact .inl z
      · cases z1
    · rcases relabel_lookup (env := X.env) hl with z | ⟨z1, z2⟩
      · exact .inr z
      · exact .inl z2
  · unfold gloC at hx
    split at hx <;> first | cases hx | skip
    rename_i hl
    rcases relabel_lookup (env := X.env) hl with z | ⟨z1, z2⟩
    · exact z
    · cases z1
theorem BlkOk.by_sc {scope : Scope} {own : List (Str × Nat)} (h : Cok P T k N sc X) (b : blkC N sc scope own = true) : BlkOk X.N X.env.scope scope own := by
  have q := blkOk_by b
  rw [h.n]
  refine ⟨q.kind, q.uniq, q.ix, fun y hy e => ?_, q.own⟩
  exact h.cel y.1 (q.free y hy e)
theorem names_pg (hC : Cok P T k N sc X) : ∀ {g : List Nat} {es : List Expr}, chkNames N sc g es = true → PGs X es (gNames g) ∧ (assignEach es X.env).length = g.length ∧ (assignEach es X.env).findIdx? (·.1) = none
  | [], [], _ => ⟨pgs_nil, rfl, rfl⟩
  | [], _ :: _, h => by simp [chkNames] at h
  | i :: is, [], h => by simp [chkNames] at h
  | i :: is, e :: es, h => by
    cases e with
    | Name x p =>
      simp only [chkNames, Bool.and_eq_true, decide_eq_true_eq] at h
      obtain ⟨a, b, c⟩ := names_pg hC h.2
      obtain ⟨l1, l2⟩ := hC.loc x h.1.2
      refine ⟨pgs_cons (pg_name (by rw [hC.n]; exact hC.nd) (by rw [hC.n]; exact h.1.1) l1 l2) a rfl, ?_, ?_⟩
      · show (assignEach es X.env).length + 1 = is.length + 1
        rw [b]
      · show ((false, assign (.Name x p) X.env) :: assignEach es X.env).findIdx? (·.1) = none
        rw [List.findIdx?_cons, c]
        rfl
    | _ => simp [chkNames] at h
theorem target_pg (hC : Cok P T k N sc X) {g : List Nat} {one : Bool} {tg : Expr} (h : chkT N sc g one tg = true) : PG X tg (gB X.kw g one) := by
  unfold chkT at h
  unfold gB
  cases one with
  | true =>
    rw [if_pos rfl] at h ⊢
    split at h
    · simp only [Bool.and_eq_true, decide_eq_true_eq] at h
      obtain ⟨l1, l2⟩ := hC.loc _ h.2
      exact pg_name (by rw [hC.n]; exact hC.nd) (by rw [hC.n]; exact h.1) l1 l2
    · cases h
  | false =>
    rw [if_neg Bool.false_ne_true] at h ⊢
    split at h
    · obtain ⟨a, b, c⟩ := names_pg hC h
      exact pg_tup hC.calm a b c
    · cases h
theorem hu64 (hC : Cok P T k N sc X) : X.A.units + 64 < cLine := hC.room.units
theorem hu1 (hC : Cok P T k N sc X) : X.A.units + 1 < cLine := by have := hC.room.units; omega
theorem Cok.held (hC : Cok P T k N sc X) {y : Str} {f : Addr} {ds : List D} {S : Store} {r : D × Store} (h : PySem.W.nsIn X.kw.K mainGlobals y = some (some (.ref f))) (e : callF P k y ds S = .ok r) : L2.Held X.prog X.w X.kw X.mg X.base k f (spOf X.kw P k y) := by
  have hm := hC.nsf y f h
  cases k with
  | zero => cases e
  | succ k =>
    simp only [callF] at e
    split at e
    · rename_i d hd
      obtain ⟨f', fd, ps, F, hm', hk, hb⟩ := hC.fn y (hC.tfn y d hd)
      have : f' = f := by
        have := hm'.symm.trans hm
        cases this
        rfl
      subst this
      exact ⟨fd, ps, F, hk, hb⟩
    · cases e
/-- the plain ones of what is built in -/
theorem se_bt {b : Bt} {m : Bool} {x : Str} {e : Expr} {es : List Expr} {p pos : Pos} {fs : Env → Store → R (List D × Store)} (hC : Cok P T k N sc X) (hb : btPlain b = true) (hx : x = btName b) (hg : gloC sc x = true) (hn : okN x = true) (hm : x ∈ T.bl)
    (ha : PA X (e :: es) (tEvs X.kw fs)) (hs : ∀ z ∈ e :: es, notStar z = true) : PE X (.Call (.Name x p) (e :: es) [] pos) (tEv X.kw fun rho S => (fs rho S).bind fun p => bltD m b p.1 p.2) := by
  have h1 := hC.glb x hg
  have h2 := hC.blt x hm
  obtain ⟨n1, n2, n3⟩ := okN_1 hn
  have h3 : starEach (e :: es) X.env = (false, eval e X.env) :: starEach es X.env := star_of (hs e List.mem_cons_self)
  have h4 : (backTo pos (starEach es X.env)).any (·.1) = false := backTo_of es X.env fun z hz => hs z (List.mem_cons_of_mem _ hz)
  subst hx
  cases b with
  | len => exact pe_weak (pe_callB (bt_len m) h1 h2 (by decide +kernel) ha n3 n1 h3 h4) fun σ H Q h => tEv_call (g := bltD m .len) (fun _ _ _ h => h) h
  | tuple => exact pe_weak (pe_callTy (bt_tuple hC.calm m) h1 h2 (by decide +kernel) ha n3 n1 h3 h4) fun σ H Q h => tEv_call (g := bltD m .tuple) (fun _ _ _ h => h) h
  | list => exact pe_weak (pe_callTy (bt_list hC.calm m) h1 h2 (by decide +kernel) ha n3 n1 h3 h4) fun σ H Q h => tEv_call (g := bltD m .list) (fun _ _ _ h => h) h
  | divmod => exact pe_weak (pe_callB (bt_divmod m) h1 h2 (by decide +kernel) ha n3 n1 h3 h4) fun σ H Q h => tEv_call (g := bltD m .divmod) (fun _ _ _ h => h) h
  | sorted => exact pe_weak (pe_callB (bt_sorted hC.calm (hu64 hC) m) h1 h2 (by decide +kernel) ha n3 n1 h3 h4) fun σ H Q h => tEv_call (g := bltD m .sorted) (fun _ _ _ h => h) h
  | max2 => exact pe_weak (pe_callB (bt_max2 hC.calm m) h1 h2 (by decide +kernel) ha n3 n1 h3 h4) fun σ H Q h => tEv_call (g := bltD m .max2) (fun _ _ _ h => h) h
  | min2 => exact pe_weak (pe_callB (bt_min2 hC.calm m) h1 h2 (by decide +kernel) ha n3 n1 h3 h4) fun σ H Q h => tEv_call (g := bltD m .min2) (fun _ _ _ h => h) h
  | all => exact pe_weak (pe_callB (bt_all hC.calm m) h1 h2 (by decide +kernel) ha n3 n1 h3 h4) fun σ H Q h => tEv_call (g := bltD m .all) (fun _ _ _ h => h) h
  | dict => exact pe_weak (pe_callTy (bt_dict hC.calm m) h1 h2 (by decide +kernel) ha n3 n1 h3 h4) fun σ H Q h => tEv_call (g := bltD m .dict) (fun _ _ _ h => h) h
  | dictN => exact pe_weak (pe_callTy (bt_dictN hC.calm (hu64 hC) m) h1 h2 (by decide +kernel) ha n3 n1 h3 h4) fun σ H Q h => tEv_call (g := bltD m .dictN) (fun _ _ _ h => h) h
  | int => exact pe_weak (pe_callTy (bt_int m) h1 h2 (by decide +kernel) ha n3 n1 h3 h4) fun σ H Q h => tEv_call (g := bltD m .int) (fun _ _ _ h => h) h
  | any => exact pe_weak (pe_callB (bt_any hC.calm m) h1 h2 (by decide +kernel) ha n3 n1 h3 h4) fun σ H Q h => tEv_call (g := bltD m .any) (fun _ _ _ h => h) h
  | _ => cases hb
theorem boot_tyN (t : Ty) (ht : t ≠ .non) : bootBuiltins (tyN' t) = some (.type (tyN t)) := by
  cases t <;> first | exact absurd rfl ht | decide +kernel
theorem se_isi {t : Ty} {m : Bool} {x y : Str} {a : Expr} {p p2 pos : Pos} {fa : Env → Store → R (D × Store)} (hC : Cok P T k N sc X) (ht : t ≠ .non) (hx : x = ("isinstance" : Str)) (hg : gloC sc x = true) (hm : x ∈ T.bl) (hy : y = tyN' t) (hgy : gloC sc y = true) (hmy : y ∈ T.bl) (hny : okN y = true)
    (ha : PE X a (tEv X.kw fa)) (hs : notStar a = true) : PE X (.Call (.Name x p) [a, .Name y p2] [] pos) (tEv X.kw fun rho S => (fa rho S).bind fun p => bltD m (.isTy t) [p.1] p.2) := by
  have h1 := hC.glb x hg
  have h2 := hC.blt x hm
  obtain ⟨n1, n2, n3⟩ := okN_1 hny
  have hty : PE X (.Name y p2) (tC (.ty (tyN t))) := pe_bltn (hC.glb y hgy) (hC.blt y hmy) (by rw [hy]; exact boot_tyN t ht) rfl n3 n1
  have hts : PA X [.Name y p2] (tCons (tC (.ty (tyN t))) tNil) := pa_cons hty pa_nil rfl
  subst hx
  refine pe_weak (pe_callB (bt_isTy t ht m) h1 h2 (by decide +kernel) (pa_cons ha hts (star_of hs)) (by decide +kernel) (by decide +kernel) (star_of hs) rfl) fun σ H Q h => ?_
  obtain ⟨al, U, S, rho, d, S', sr, er, e, q⟩ := h
  obtain ⟨⟨d1, S1⟩, e1, e⟩ := R.bind_ok e
  exact ⟨al, U, S, rho, d1, S1, sr, er, e1, fun v H1 al1 n1 sr1 r1 => ⟨v, rfl, al1, U, S1, [d1], d, S', sr1, by simp only [Reps]; exact ⟨v, [], rfl, r1, rfl⟩, e, fun v2 H2 al2 n2 sr2 r2 => q v2 H2 al2 (sr1.trans n1 n2) sr2 r2⟩⟩
theorem rgV_rep {K : KW} {al : Nat → Addr} {n : Nat} {U : List Addr} {H : Hp} : ∀ (m : Nat) (lo : Int), Reps K al n U H (rangeD lo m) ((List.range m).map fun i => V.int (lo + (i : Nat)))
  | 0, lo => by simp [rangeD, Reps]
  | m + 1, lo => by
    have ih := rgV_rep (K := K) (al := al) (n := n) (U := U) (H := H) m (lo + 1)
    rw [rangeD, List.range_succ_eq_map, List.map_cons, List.map_map]
    simp only [Reps, Rep]
    refine ⟨_, _, rfl, by simp, ?_⟩
    have e : (List.range m).map ((fun i => V.int (lo + (i : Nat))) ∘ Nat.succ) = (List.range m).map fun i => V.int (lo + 1 + (i : Nat)) := by
      apply List.map_congr_left
      intro i _
      show V.int _ = V.int _
      congr 1
      simp
      omega
    rw [e]
    exact ih
/-- list(range(n)) -/
theorem se_lrg {m : Bool} {x y : Str} {a : Expr} {p p2 pos pos2 : Pos} {fa : Env → Store → R (D × Store)} (hC : Cok P T k N sc X) (hx : x = ("list" : Str)) (hg : gloC sc x = true) (hm : x ∈ T.bl) (hn : okN x = true) (hy : y = ("range" : Str)) (hgy : gloC sc y = true) (hmy : y ∈ T.bl)
    (ha : PE X a (tEv X.kw fa)) (hs : notStar a = true) : PE X (.Call (.Name x p) [.Call (.Name y p2) [a] [] pos2] [] pos) (tEv X.kw fun rho S => (fa rho S).bind fun p => bltD m .listRg [p.1] p.2) := by
  have h1 := hC.glb x hg
  have h2 := hC.blt x hm
  have h3 := hC.glb y hgy
  have h4 := hC.blt y hmy
  subst hx hy
  refine pe_weak (pe_listRg hC.calm h1 h2 (prg_1 h3 h4 ha (star_of hs)) (star_of rfl)) fun σ H Q ⟨al, U, S, rho, d, S', sr, er, e, q⟩ => ?_
  obtain ⟨⟨d1, S1⟩, e1, e⟩ := R.bind_ok e
  have e2 : lrgD m [d1] S1 = .ok (d, S') := e
  clear e
  unfold lrgD at e2
  split at e2 <;> try (cases e2; done)
  rename_i j hj
  cases hj
  split at e2
  · rename_i hz
    refine ⟨al, U, S, rho, .int j, S1, sr, er, e1, fun v1 H1 al1 n1 sr1 r1 => ?_⟩
    simp only [Rep] at r1
    have hl : sizeLine = 16777216 := by decide
    have ln : (rangeD 0 j.toNat).length = j.toNat := rangeD_length _ _
    have r := rgV_rep (K := X.kw) (al := al1) (n := S1.length) (U := U) (H := H1) j.toNat 0
    have e3 : (rgV 0 j) = (List.range j.toNat).map fun i => V.int (0 + (i : Nat)) := by
      unfold rgV
      rw [Int.sub_zero]
    refine ⟨j, r1, RgOk.of_le (by omega) (by omega) (by omega) (by omega), ?_⟩
    rw [e3]
    exact new_lit sr1 e2 (by rw [ln]; omega) r fun v2 H2 al2 n2 sr2 r2 => q v2 H2 al2 (sr1.trans n1 n2) sr2 r2
  · cases e2
theorem pe_tupRgF {e : Expr} {te : L2.St → Hp → (Int → Int → Hp → Prop) → Prop} {p pos : Pos} (hc : X.calm = true) (hg : Gl X "tuple") (hm : X.mg "tuple" = none) (he : PRg X e te) (na : starEach [e] X.env = (false, eval e X.env) :: starEach [] X.env) : PE X (.Call (.Name "tuple" p) [e] [] pos) (fun σ H Q => te σ H fun a b H1 => RgOk a b ∧ NewT H1 (rgV a b) Q) := by
  refine ⟨fun pins s σ H Q I h => ?_⟩
  refine Call_ (ld_blt I hg hm boot_tuple (PyProof.Rows.callWith_type1 (args_cons (thn (he pins s σ H _ I h) fun x s1 ⟨r, a, b, t, u, v, H1, ex, hr, I1, ok, q⟩ => args_nil ?_) na) na))
  subst ex
  obtain ⟨b1, b2, b3, b4, b5⟩ := ok
  refine call_tuple_range (n := (b - a).toNat) (I1.ok.hd hc) hr (small_one b1 b2 b3 b4) (rangeSize_nat a b) b5 fun h' tk acc hk hi => ?_
  have I2 : Inv X pins σ H1 { s1 with heap := h', toks := tk } := I1.kept hk
  exact lay_tup I2 (vals_rg hi) (by rw [rgV_length, sizeLine_eq]; omega) q
/-- tuple(range(n)) -/
theorem se_trg {m : Bool} {x y : Str} {a : Expr} {p p2 pos pos2 : Pos} {fa : Env → Store → R (D × Store)} (hC : Cok P T k N sc X) (hx : x = ("tuple" : Str)) (hg : gloC sc x = true) (hm : x ∈ T.bl) (hn : okN x = true) (hy : y = ("range" : Str)) (hgy : gloC sc y = true) (hmy : y ∈ T.bl)
    (ha : PE X a (tEv X.kw fa)) (hs : notStar a = true) : PE X (.Call (.Name x p) [.Call (.Name y p2) [a] [] pos2] [] pos) (tEv X.kw fun rho S => (fa rho S).bind fun p => bltD m .tupRg [p.1] p.2) := by
  have h1 := hC.glb x hg
  have h2 := hC.blt x hm
  have h3 := hC.glb y hgy
  have h4 := hC.blt y hmy
  subst hx hy
  refine pe_weak (pe_tupRgF hC.calm h1 h2 (prg_1 h3 h4 ha (star_of hs)) (star_of rfl)) fun σ H Q ⟨al, U, S, rho, d, S', sr, er, e, q⟩ => ?_
  obtain ⟨⟨d1, S1⟩, e1, e⟩ := R.bind_ok e
  have e2 : trgD [d1] S1 = .ok (d, S') := e
  clear e
  unfold trgD at e2
  split at e2 <;> try (cases e2; done)
  rename_i j hj
  cases hj
  split at e2
  · rename_i hz
    cases e2
    refine ⟨al, U, S, rho, .int j, S', sr, er, e1, fun v1 H1 al1 n1 sr1 r1 => ?_⟩
    simp only [Rep] at r1
    have hl : sizeLine = 16777216 := by decide
    have ln : (rangeD 0 j.toNat).length = j.toNat := rangeD_length _ _
    have r := rgV_rep (K := X.kw) (al := al1) (n := S'.length) (U := U) (H := H1) j.toNat 0
    have e3 : (rgV 0 j) = (List.range j.toNat).map fun i => V.int (0 + (i : Nat)) := by
      unfold rgV
      rw [Int.sub_zero]
    refine ⟨j, r1, RgOk.of_le (by omega) (by omega) (by omega) (by omega), ?_⟩
    rw [e3]
    exact new_tup sr1 (by rw [ln]; omega) r fun v2 H2 al2 n2 sr2 r2 => q v2 H2 al2 (sr1.trans n1 n2) sr2 r2
  · cases e2
/-- the plain methods -/
theorem se_mt {t : Mt} {name : Str} {o a : Expr} {es : List Expr} {apos cpos : Pos} {fo : Env → Store → R (D × Store)} {fs : Env → Store → R (List D × Store)} (hC : Cok P T k N sc X) (ht : mtPlain t = true) (hname : name = mtName t) (hb : notCall0 o = true) (hl : (apos.endLine == cpos.line) = true) (hlen : es.length < 20)
    (ho : PE X o (tEv X.kw fo)) (ha : PA X (a :: es) (tEvs X.kw fs)) (hs : ∀ z ∈ a :: es, notStar z = true) : PE X (.Call (.Attribute o name apos) (a :: es) [] cpos) (tEv X.kw fun rho S => (fo rho S).bind fun p => if recvOk t p.1 p.2 then (fs rho p.2).bind fun q => mthD t p.1 q.1 q.2 else .bad) := by
  have h3 : starEach (a :: es) X.env = (false, eval a X.env) :: starEach es X.env := star_of (hs a List.mem_cons_self)
  have h4 : (backTo cpos (starEach es X.env)).any (·.1) = false := backTo_of es X.env fun z hz => hs z (List.mem_cons_of_mem _ hz)
  have h5 : ((backTo cpos (starEach (a :: es) X.env)).all (fun x => !x.1) && (backToKw cpos (keywordEach [] X.env)).all (fun x => x.1.isSome)
      && decide ((a :: es).length + ([] : List Keyword).length + (if ([] : List Keyword).isEmpty then 0 else 1) < 30)) = true := by
    have e1 : (backTo cpos (starEach (a :: es) X.env)).all (fun x => !x.1) = true := by
      have := backTo_of (pos := cpos) (a :: es) X.env hs
      rw [List.any_eq_false] at this
      rw [List.all_eq_true]
      intro x hx
      have := this x hx
      simpa using this
    have e2 : decide ((a :: es).length + ([] : List Keyword).length + (if ([] : List Keyword).isEmpty then 0 else 1) < 30) = true := by
      rw [decide_eq_true_eq]
      simp
      omega
    rw [e1, e2]
    rfl
  subst hname
  cases t with
  | append =>
    refine pe_weak (pe_bm PySem.F.plainAttrs_list PySem.F.slot_list_append PySem.F.type_list_append mt_app ho ha (base_of hb) h5 hl h3 h4) fun σ H Q ⟨al, U, S, rho, d, S', sr, er, e, q⟩ => ?_
    obtain ⟨⟨d1, S1⟩, e1, e⟩ := R.bind_ok e
    refine ⟨al, U, S, rho, d1, S1, sr, er, e1, fun v1 H1 al1 n1 sr1 r1 => ?_⟩
    split at e
    · rename_i hr
      obtain ⟨⟨d2, S2⟩, e2, e⟩ := R.bind_ok e
      refine ⟨?_, al1, U, S1, rho, d2, S2, sr1, er.nxt n1, e2, fun vs H2 al2 n2 sr2 r2 => ⟨al2, U, S2, d1, d2, d, S', sr2, Rep.nxt n2 _ _ r1, r2, e, fun v3 H3 al3 n3 sr3 r3 => q v3 H3 al3 (sr1.trans n1 (sr2.trans n2 n3)) sr3 r3⟩⟩
      cases d1 with
      | ref m =>
        unfold recvOk at hr
        simp only at hr
        split at hr
        · rename_i ds eo
          obtain ⟨vs, h1, _⟩ := sr1.obj m _ eo
          simp only [Rep] at r1
          rw [r1.2]
          exact .inl ⟨rfl, vs, SqL.of h1⟩
        · cases hr
      | _ => cases hr
    · cases e
  | extend =>
    refine pe_weak (pe_bm PySem.F.plainAttrs_list PySem.F.slot_list_extend PySem.F.type_list_extend mt_ext ho ha (base_of hb) h5 hl h3 h4) fun σ H Q ⟨al, U, S, rho, d, S', sr, er, e, q⟩ => ?_
    obtain ⟨⟨d1, S1⟩, e1, e⟩ := R.bind_ok e
    refine ⟨al, U, S, rho, d1, S1, sr, er, e1, fun v1 H1 al1 n1 sr1 r1 => ?_⟩
    split at e
    · rename_i hr
      obtain ⟨⟨d2, S2⟩, e2, e⟩ := R.bind_ok e
      refine ⟨?_, al1, U, S1, rho, d2, S2, sr1, er.nxt n1, e2, fun vs H2 al2 n2 sr2 r2 => ⟨al2, U, S2, d1, d2, d, S', sr2, Rep.nxt n2 _ _ r1, r2, e, fun v3 H3 al3 n3 sr3 r3 => q v3 H3 al3 (sr1.trans n1 (sr2.trans n2 n3)) sr3 r3⟩⟩
      cases d1 with
      | ref m =>
        unfold recvOk at hr
        simp only at hr
        split at hr
        · rename_i ds eo
          obtain ⟨vs, h1, _⟩ := sr1.obj m _ eo
          simp only [Rep] at r1
          rw [r1.2]
          exact .inl ⟨rfl, vs, SqL.of h1⟩
        · cases hr
      | _ => cases hr
    · cases e
  | index =>
    refine pe_weak (pe_bm PySem.F.plainAttrs_str PySem.F.slot_str_index PySem.F.type_str_index mt_idx ho ha (base_of hb) h5 hl h3 h4) fun σ H Q ⟨al, U, S, rho, d, S', sr, er, e, q⟩ => ?_
    obtain ⟨⟨d1, S1⟩, e1, e⟩ := R.bind_ok e
    refine ⟨al, U, S, rho, d1, S1, sr, er, e1, fun v1 H1 al1 n1 sr1 r1 => ?_⟩
    split at e
    · rename_i hr
      obtain ⟨⟨d2, S2⟩, e2, e⟩ := R.bind_ok e
      refine ⟨?_, al1, U, S1, rho, d2, S2, sr1, er.nxt n1, e2, fun vs H2 al2 n2 sr2 r2 => ⟨al2, U, S2, d1, d2, d, S', sr2, Rep.nxt n2 _ _ r1, r2, e, fun v3 H3 al3 n3 sr3 r3 => q v3 H3 al3 (sr1.trans n1 (sr2.trans n2 n3)) sr3 r3⟩⟩
      cases d1 with
      | str z =>
        simp only [Rep] at r1
        rw [r1.1]
        exact rfl
      | _ => cases hr
    · cases e
  | indexT =>
    refine pe_weak (pe_bmP (rT := fun x H => ∃ p xs, x = .ref p ∧ TupP X.kw H p xs) PySem.F.plainAttrs_tuple PySem.F.slot_tuple_index PySem.F.type_tuple_index mt_idxT (fun {pins s σ H x v} I rx hx => by
      obtain ⟨p, xs, ex, hp⟩ := hx
      subst ex
      cases rx
      obtain ⟨its, _, ⟨ob, n, g1, g2, g3, g4⟩, _⟩ := plain_seq I hp
      refine ⟨⟨ob, g1, g2⟩, fun a ea => ?_⟩
      cases ea
      exact ⟨ob, g1, g3⟩) ho ha (base_of hb) h5 hl h3 h4) fun σ H Q ⟨al, U, S, rho, d, S', sr, er, e, q⟩ => ?_
    obtain ⟨⟨d1, S1⟩, e1, e⟩ := R.bind_ok e
    refine ⟨al, U, S, rho, d1, S1, sr, er, e1, fun v1 H1 al1 n1 sr1 r1 => ?_⟩
    split at e
    · rename_i hr
      obtain ⟨⟨d2, S2⟩, e2, e⟩ := R.bind_ok e
      refine ⟨?_, al1, U, S1, rho, d2, S2, sr1, er.nxt n1, e2, fun vs H2 al2 n2 sr2 r2 => ⟨al2, U, S2, d1, d2, d, S', sr2, Rep.nxt n2 _ _ r1, r2, e, fun v3 H3 al3 n3 sr3 r3 => q v3 H3 al3 (sr1.trans n1 (sr2.trans n2 n3)) sr3 r3⟩⟩
      cases d1 with
      | tup z =>
        simp only [Rep] at r1
        obtain ⟨p, vs, ev, t, _⟩ := r1
        exact ⟨p, vs, ev, t.plain⟩
      | _ => cases hr
    · cases e
  | get2 =>
    refine pe_weak (pe_bmP (rT := fun x H => ∃ p, x = .ref p ∧ (IsD H p ∨ ∃ xs, H p = some (.ext (ndP X.w p xs)))) PySem.F.plainAttrs_dict PySem.F.slot_dict_get PySem.F.type_dict_get (mt_get2 (hu64 hC)) (fun {pins s σ H x v} I rx hx => by
      obtain ⟨p, ex, hp⟩ := hx
      subst ex
      cases rx
      rcases hp with hp | ⟨xs, hp⟩
      · obtain ⟨t1, t2, _⟩ := isD_at I hp
        exact ⟨t1, t2⟩
      · obtain ⟨t1, t2⟩ := nd_type I hp
        exact ⟨t1, fun a ea => by cases ea; exact t2⟩) ho ha (base_of hb) h5 hl h3 h4) fun σ H Q ⟨al, U, S, rho, d, S', sr, er, e, q⟩ => ?_
    obtain ⟨⟨d1, S1⟩, e1, e⟩ := R.bind_ok e
    refine ⟨al, U, S, rho, d1, S1, sr, er, e1, fun v1 H1 al1 n1 sr1 r1 => ?_⟩
    split at e
    · rename_i hr
      obtain ⟨⟨d2, S2⟩, e2, e⟩ := R.bind_ok e
      refine ⟨?_, al1, U, S1, rho, d2, S2, sr1, er.nxt n1, e2, fun vs H2 al2 n2 sr2 r2 => ⟨al2, U, S2, d1, d2, d, S', sr2, Rep.nxt n2 _ _ r1, r2, e, fun v3 H3 al3 n3 sr3 r3 => q v3 H3 al3 (sr1.trans n1 (sr2.trans n2 n3)) sr3 r3⟩⟩
      cases d1 with
      | ref m =>
        simp only [Rep] at r1
        unfold recvOk at hr
        simp only at hr
        split at hr
        · rename_i ks vs eo
          obtain ⟨kvs, g1, _⟩ := sr1.obj m _ eo
          exact ⟨_, r1.2, .inl (.inl ⟨kvs, .inl g1⟩)⟩
        · rename_i ks vs eo
          obtain ⟨xs, _, _, g1, _⟩ := sr1.obj m _ eo
          exact ⟨_, r1.2, .inr ⟨xs, g1⟩⟩
        · cases hr
      | _ => cases hr
    · cases e
  | join =>
    refine pe_weak (pe_bm PySem.F.plainAttrs_str PySem.F.slot_str_join PySem.F.type_str_join mt_joi ho ha (base_of hb) h5 hl h3 h4) fun σ H Q ⟨al, U, S, rho, d, S', sr, er, e, q⟩ => ?_
    obtain ⟨⟨d1, S1⟩, e1, e⟩ := R.bind_ok e
    refine ⟨al, U, S, rho, d1, S1, sr, er, e1, fun v1 H1 al1 n1 sr1 r1 => ?_⟩
    split at e
    · rename_i hr
      obtain ⟨⟨d2, S2⟩, e2, e⟩ := R.bind_ok e
      refine ⟨?_, al1, U, S1, rho, d2, S2, sr1, er.nxt n1, e2, fun vs H2 al2 n2 sr2 r2 => ⟨al2, U, S2, d1, d2, d, S', sr2, Rep.nxt n2 _ _ r1, r2, e, fun v3 H3 al3 n3 sr3 r3 => q v3 H3 al3 (sr1.trans n1 (sr2.trans n2 n3)) sr3 r3⟩⟩
      cases d1 with
      | str z =>
        simp only [Rep] at r1
        rw [r1.1]
        exact rfl
      | _ => cases hr
    · cases e
  | _ => cases ht
theorem se_orv {a b : Expr} {pos : Pos} {fa fb : Env → Store → R (D × Store)} (ha : PE X a (tEv X.kw fa)) (hb : PE X b (tEv X.kw fb)) : PE X (.BoolOp .Or [a, b] pos) (tEv X.kw fun rho S => (fa rho S).bind fun p => match p.1 with
    | .tup (d :: ds) => .ok (.tup (d :: ds), p.2)
    | .tup [] => (fb rho p.2).bind tupOnly
    | .non => (fb rho p.2).bind tupOnly
    | _ => .bad) := by
  refine pe_weak (pe_orT ha (se_one hb)) fun σ H Q ⟨al, U, S, rho, d, S', sr, er, e, q⟩ => ?_
  obtain ⟨⟨d1, S1⟩, e1, e⟩ := R.bind_ok e
  refine ⟨al, U, S, rho, d1, S1, sr, er, e1, fun v1 H1 al1 n1 sr1 r1 => ?_⟩
  have more : (fb rho S1).bind tupOnly = .ok (d, S') → tEv X.kw fb σ H1 Q := fun e => by
    obtain ⟨⟨d2, S2⟩, e2, e⟩ := R.bind_ok e
    have e3 : d2 = d ∧ S2 = S' := by
      unfold tupOnly at e
      simp only at e
      split at e
      · rename_i ds0
        cases e
        exact ⟨rfl, rfl⟩
      · cases e
    obtain ⟨rfl, rfl⟩ := e3
    exact ⟨al1, U, S1, rho, _, _, sr1, er.nxt n1, e2, fun v2 H2 al2 n2 sr2 r2 => q v2 H2 al2 (sr1.trans n1 n2) sr2 r2⟩
  cases d1 with
  | non =>
    simp only [Rep] at r1
    subst r1
    exact ⟨false, rfl, by rw [if_neg Bool.false_ne_true]; exact more e⟩
  | tup ds =>
    have r1' := r1
    simp only [Rep] at r1
    obtain ⟨p, vs, rfl, t, l, r⟩ := r1
    cases ds with
    | nil =>
      simp only [Reps] at r
      subst r
      exact ⟨false, .inr (.inl ⟨_, t.sq, rfl⟩), by rw [if_neg Bool.false_ne_true]; exact more e⟩
    | cons d0 ds =>
      cases e
      simp only [Reps] at r
      obtain ⟨v0, r', rfl, _⟩ := r
      exact ⟨true, .inr (.inl ⟨_, t.sq, rfl⟩), by rw [if_pos rfl]; exact q _ _ _ n1 sr1 r1'⟩
  | _ => cases e
theorem tEvs.of {K : KW} {f g : Env → Store → R (List D × Store)} (h : ∀ rho S, f rho S = g rho S) {σ : L2.St} {H : Hp} {Q : List V → Hp → Prop} (q : tEvs K f σ H Q) : tEvs K g σ H Q := by
  obtain ⟨al, U, S, rho, d, S', sr, er, e, q⟩ := q
  exact ⟨al, U, S, rho, d, S', sr, er, (h rho S).symm.trans e, q⟩
theorem tEvI.of {K : KW} {f g : Env → Store → R (Z.Itr × Store)} (h : ∀ rho S, f rho S = g rho S) {σ : L2.St} {H : Hp} {Q : L2.It → Hp → Prop} (q : tEvI K f σ H Q) : tEvI K g σ H Q := by
  obtain ⟨al, U, S, rho, d, S', sr, er, e, q⟩ := q
  exact ⟨al, U, S, rho, d, S', sr, er, (h rho S).symm.trans e, q⟩
theorem tEvT.of {K : KW} {f g : Env → Store → R (D × Store)} (h : ∀ rho S, f rho S = g rho S) {σ : L2.St} {H : Hp} {Q : Bool → Hp → Prop} (q : tEvT K f σ H Q) : tEvT K g σ H Q := by
  obtain ⟨al, U, S, rho, d, S', sr, er, e, q⟩ := q
  exact ⟨al, U, S, rho, d, S', sr, er, (h rho S).symm.trans e, q⟩
theorem tEvS.of {K : KW} {f g : Env → Store → R (Fl × Env × Store)} (h : ∀ rho S, f rho S = g rho S) {D : Ends} {σ : L2.St} {H : Hp} (q : tEvS K f D σ H) : tEvS K g D σ H := by
  obtain ⟨al, U, S, rho, fl, rho', S', sr, er, e, q⟩ := q
  exact ⟨al, U, S, rho, fl, rho', S', sr, er, (h rho S).symm.trans e, q⟩
theorem pe_of {e : Expr} {f g : Env → Store → R (D × Store)} (h : PE X e (tEv X.kw f)) (w : ∀ rho S, g rho S = f rho S) : PE X e (tEv X.kw g) := pe_weak h fun _ _ _ q => tEv.of w q
theorem pt_of {e : Expr} {f g : Env → Store → R (D × Store)} (h : PT X e (tEvT X.kw f)) (w : ∀ rho S, g rho S = f rho S) : PT X e (tEvT X.kw g) := pt_weak h fun _ _ _ q => tEvT.of w q
theorem pw_of {e : Expr} {f g : Env → Store → R (D × Store)} (h : PW X e (tEvT X.kw f)) (w : ∀ rho S, g rho S = f rho S) : PW X e (tEvT X.kw g) := pw_weak h fun _ _ _ q => tEvT.of w q
theorem pa_of {es : List Expr} {f g : Env → Store → R (List D × Store)} (h : PA X es (tEvs X.kw f)) (w : ∀ rho S, g rho S = f rho S) : PA X es (tEvs X.kw g) := pa_weak h fun _ _ _ q => tEvs.of w q
theorem pi_of {tg e : Expr} {f g : Env → Store → R (Z.Itr × Store)} (h : PI X tg e (tEvI X.kw f)) (w : ∀ rho S, g rho S = f rho S) : PI X tg e (tEvI X.kw g) := pi_weak h fun _ _ _ q => tEvI.of w q
theorem ps_of {st : Stmt} {f g : Env → Store → R (Fl × Env × Store)} (h : PS X st (tEvS X.kw f)) (w : ∀ rho S, g rho S = f rho S) : PS X st (tEvS X.kw g) := ps_weak h fun _ _ _ q => tEvS.of w q
theorem pss_of {st : List Stmt} {f g : Env → Store → R (Fl × Env × Store)} (h : PSs X st (tEvS X.kw f)) (w : ∀ rho S, g rho S = f rho S) : PSs X st (tEvS X.kw g) := pss_weak h fun _ _ _ q => tEvS.of w q
end
end Z

set_option Elab.async false
set_option linter.all false
set_option maxRecDepth 100000
set_option maxHeartbeats 8000000
/-! SndE: the whole of expressions. -/
namespace Z
open PySem L2 PySem.Spec PyProof.Rows

section
variable {P : Pg} {T : Tab} {k : Nat} {N : List Str}
abbrev gOf (P : Pg) (k : Nat) : Ctx := ⟨callF P k, P.glo, P.fuel⟩
theorem con_rep {d : D} {c : Const} (h : chkD d c = true) {X : Cx} {j : Nat} {pos : Pos} : PE X (.Constant c j pos) (tEv X.kw fun _ S => .ok (d, S)) := by
  cases d with
  | non => cases c <;> first | exact se_con pe_non (fun _ _ _ _ => by simp only [Rep]) | cases h
  | bl b =>
    cases c <;> first | cases h | skip
    rename_i b'
    have : b = b' := by simpa [chkD] using h
    subst this
    exact se_con pe_bl fun _ _ _ _ => by simp only [Rep]
  | int i =>
    cases c <;> first | cases h | skip
    rename_i b'
    have : i = b' := by simpa [chkD] using h
    subst this
    exact se_con pe_int fun _ _ _ _ => by simp only [Rep]
  | str s =>
    cases c <;> first | cases h | skip
    rename_i x
    have : x = toS s ∧ s.length ≤ 10000 := by simpa [chkD] using h
    obtain ⟨rfl, hl⟩ := this
    refine se_con pe_str fun _ _ _ _ => ?_
    simp only [Rep]
    have : sizeLine = 16777216 := by decide
    exact ⟨trivial, by omega⟩
  | _ => cases h
theorem len1000 {n : Nat} (h : n ≤ 1000) : n ≤ sizeLine := by
  have : sizeLine = 16777216 := by decide
  omega
mutual
theorem soundE : ∀ (c : E) {sc : Scope} {X : Cx} (hC : Cok P T k N sc X) (e : Expr), chkE T N sc c e = true → PE X e (tEv X.kw (evE (gOf P k) c))
  | .var i, sc, X, hC, e, h => by
    unfold chkE at h
    split at h
    · simp only [Bool.and_eq_true, decide_eq_true_eq] at h
      obtain ⟨n1, n2, n3⟩ := okN_1 h.2
      exact pe_of (se_var (by rw [hC.n]; exact h.1.1) (hC.vis _ h.1.2) n1 n2) fun rho S => by (simp only [evE]) <;> rfl
    · cases h
  | .con d, sc, X, hC, e, h => by
    unfold chkE at h
    split at h
    · exact pe_of (con_rep h) fun rho S => by (simp only [evE]) <;> rfl
    · cases h
  | .glo x, sc, X, hC, e, h => by
    unfold chkE at h
    split at h
    · rename_i y pos
      simp only [Bool.and_eq_true, decide_eq_true_eq] at h
      obtain ⟨⟨⟨rfl, h2⟩, h3⟩, h4⟩ := h
      obtain ⟨v, u, d, e1, e2, r, rr⟩ := hC.glo x (by simpa using h4)
      obtain ⟨n1, n2, n3⟩ := okN_1 h3
      refine pe_of (se_con (pe_glob (hC.glb x h2) e2 r n1) rr) fun rho S => ?_
      simp only [evE]
      rw [e1]
    · cases h
  | .tup cs, sc, X, hC, e, h => by
    unfold chkE at h
    split at h
    · simp only [Bool.and_eq_true, decide_eq_true_eq] at h
      exact pe_of (se_tup (soundEs cs hC _ h.1) (len1000 h.2) fun rho S p e => by rw [evEs_len e, (chkEs_star h.1).2]) fun rho S => by (simp only [evE]) <;> rfl
    · cases h
  | .lst m cs, sc, X, hC, e, h => by
    unfold chkE at h
    split at h
    · simp only [Bool.and_eq_true, decide_eq_true_eq] at h
      exact pe_of (se_lst (m := m) (soundEs cs hC _ h.1) (len1000 h.2) fun rho S p e => by rw [evEs_len e, (chkEs_star h.1).2]) fun rho S => by (simp only [evE]) <;> rfl
    · cases h
  | .dct ks vs, sc, X, hC, e, h => by
    unfold chkE at h
    split at h
    · exact pe_of se_dct0 fun rho S => by (simp only [evE]) <;> rfl
    · cases h
  | .dcn ks vs, sc, X, hC, e, h => by
    unfold chkE at h
    split at h
    · exact pe_of se_dcn0 fun rho S => by (simp only [evE]) <;> rfl
    · rename_i a b a' b' pos
      rw [Bool.and_eq_true] at h
      exact pe_of (se_dcn1 (hu64 hC) (soundE a hC _ h.1) (soundE b hC _ h.2)) fun rho S => by (simp only [evE]) <;> rfl
    · cases h
  | .bin o a b, sc, X, hC, e, h => by
    unfold chkE at h
    split at h
    · simp only [Bool.and_eq_true, decide_eq_true_eq] at h
      obtain ⟨⟨rfl, h2⟩, h3⟩ := h
      exact pe_of (se_bin o (soundE a hC _ h2) (soundE b hC _ h3)) fun rho S => by (simp only [evE]) <;> rfl
    · cases h
  | .neg a, sc, X, hC, e, h => by
    unfold chkE at h
    split at h
    · exact pe_of (se_neg (soundE a hC _ h)) fun rho S => by (simp only [evE]) <;> rfl
    · cases h
  | .not a, sc, X, hC, e, h => by
    unfold chkE at h
    split at h
    · exact pe_of (se_not (soundE a hC _ h)) fun rho S => by (simp only [evE]) <;> rfl
    · cases h
  | .and cs, sc, X, hC, e, h => by
    unfold chkE at h
    split at h
    · exact pe_of (soundA cs hC _ h) fun rho S => by (simp only [evE]) <;> rfl
    · cases h
  | .or cs, sc, X, hC, e, h => by
    unfold chkE at h
    split at h
    · exact pe_of (soundO cs hC _ h) fun rho S => by (simp only [evE]) <;> rfl
    · cases h
  | .orv a b, sc, X, hC, e, h => by
    unfold chkE at h
    split at h
    · rw [Bool.and_eq_true] at h
      exact pe_of (se_orv (soundE a hC _ h.1) (soundE b hC _ h.2)) fun rho S => by (simp only [evE]) <;> rfl
    · cases h
  | .cmp o a b, sc, X, hC, e, h => by
    unfold chkE at h
    split at h
    · simp only [Bool.and_eq_true, decide_eq_true_eq] at h
      obtain ⟨⟨⟨rfl, h1⟩, h2⟩, h3⟩ := h
      exact pe_of (se_cmp (hu64 hC) o (soundE a hC _ h2) (soundE b hC _ h3) (nomark_of h1)) fun rho S => by (simp only [evE]) <;> rfl
    · cases h
  | .chain o o' a b c, sc, X, hC, e, h => by
    unfold chkE at h
    split at h
    · simp only [Bool.and_eq_true, decide_eq_true_eq] at h
      obtain ⟨⟨⟨⟨⟨⟨rfl, rfl⟩, h1⟩, h1'⟩, h2⟩, h3⟩, h4⟩ := h
      exact pe_of (se_chain (hu64 hC) o o' (soundE a hC _ h2) (soundE b hC _ h3) (soundE c hC _ h4) (lastMarks_of h1')) fun rho S => by (simp only [evE]) <;> rfl
    · cases h
  | .ix a i, sc, X, hC, e, h => by
    unfold chkE at h
    split at h
    · simp only [Bool.and_eq_true, decide_eq_true_eq] at h
      exact pe_of (se_ix (hu64 hC) (soundE a hC _ h.1.2) (soundE i hC _ h.2) (plainIx_of h.1.1)) fun rho S => by (simp only [evE]) <;> rfl
    · cases h
  | .sl m a l lo hh hi, sc, X, hC, e, h => by
    unfold chkE at h
    split at h
    · rename_i a' lo' hi' _ _
      rw [Bool.and_eq_true, Bool.and_eq_true] at h
      obtain ⟨⟨h1, h2⟩, h3⟩ := h
      have hlo : PO X lo' (tEvP X.kw fun rho S => if l then (evE (gOf P k) lo rho S).bind partD else .ok (none, S)) := by
        cases lo' with
        | none =>
          have : l = false := by simpa using h2
          subst this
          exact so_none
        | some x =>
          simp only [Bool.and_eq_true] at h2
          obtain ⟨rfl, h2⟩ := h2
          exact so_some (soundE lo hC _ h2)
      have hhi : PO X hi' (tEvP X.kw fun rho S => if hh then (evE (gOf P k) hi rho S).bind partD else .ok (none, S)) := by
        cases hi' with
        | none =>
          have : hh = false := by simpa using h3
          subst this
          exact so_none
        | some x =>
          simp only [Bool.and_eq_true] at h3
          obtain ⟨rfl, h3⟩ := h3
          exact so_some (soundE hi hC _ h3)
      exact pe_of (se_sl (m := m) (soundE a hC _ h1) hlo hhi) fun rho S => by (simp only [evE]) <;> rfl
    · cases h
  | .rev a, sc, X, hC, e, h => by
    unfold chkE at h
    split at h
    · exact pe_of (se_rev (soundE a hC _ h)) fun rho S => by (simp only [evE]) <;> rfl
    · cases h
  | .no, sc, X, hC, e, h => by
    unfold chkE at h
    cases h
  | .call f cs, sc, X, hC, e, h => by
    unfold chkE at h
    split at h
    · rename_i x p es pos
      simp only [Bool.and_eq_true, decide_eq_true_eq] at h
      obtain ⟨⟨⟨⟨rfl, h2⟩, h3⟩, h4⟩, h5⟩ := h
      obtain ⟨g, fd, ps, F, hm, hk, hb⟩ := hC.fn f (by simpa using h4)
      obtain ⟨n1, n2, n3⟩ := okN_1 h3
      obtain ⟨st, ln⟩ := chkEs_star h5
      have ha := soundEs cs hC _ h5
      cases es with
      | nil =>
        cases cs with
        | nil => exact pe_of (se_call0 F hC.room (hC.glb f h2) hm hk hb n1) fun rho S => by simp only [evE, evEs, R.ok_bind]
        | cons _ _ => cases ln
      | cons a es =>
        exact pe_of (se_call F hC.room (hC.glb f h2) hm hk hb ha n1 (star_of (st a List.mem_cons_self)) (backTo_of es X.env fun z hz => st z (List.mem_cons_of_mem _ hz))) fun rho S => by (simp only [evE]) <;> rfl
    · cases h
  | .callv i cs, sc, X, hC, e, h => by
    unfold chkE at h
    split at h
    · rename_i x p a es pos
      simp only [Bool.and_eq_true, decide_eq_true_eq] at h
      obtain ⟨⟨⟨h1, h2⟩, h3⟩, h5⟩ := h
      obtain ⟨n1, n2, n3⟩ := okN_1 h3
      obtain ⟨st, ln⟩ := chkEs_star h5
      exact pe_of (se_callv (fun y f ds S r hf hr => hC.held hf hr) hC.room (by rw [hC.n]; exact h1) (hC.vis _ h2) (soundEs cs hC _ h5) n1 n2 (star_of (st a List.mem_cons_self)) (backTo_of es X.env fun z hz => st z (List.mem_cons_of_mem _ hz))) fun rho S => by (simp only [evE]) <;> rfl
    · cases h
  | .blt m b cs, sc, X, hC, e, h => by
    unfold chkE at h
    split at h
    · rename_i x p es pos
      split at h
      · rename_i t a' y p2
        simp only [Bool.and_eq_true, decide_eq_true_eq, Bool.not_eq_true', decide_eq_false_iff_not] at h
        obtain ⟨⟨⟨⟨⟨⟨⟨⟨⟨h1, h2⟩, h3⟩, h4⟩, h5⟩, h6⟩, h7⟩, h8⟩, h9⟩, h10⟩ := h
        cases cs with
        | nil => simp [chkEs] at h10
        | cons c cs =>
          cases cs with
          | nil =>
            simp only [chkEs, Bool.and_eq_true] at h10
            exact pe_of (se_isi (m := m) hC h8 h1 h2 (by simpa using h3) h4 h5 (by simpa using h6) h7 (soundE c hC _ h10.1.2) h9) fun rho S => by (simp only [evE, evEs, R.bind_assoc, R.ok_bind]) <;> rfl
          | cons _ _ => simp [chkEs] at h10
      · rename_i y p2 a' pos2
        simp only [Bool.and_eq_true, decide_eq_true_eq] at h
        obtain ⟨⟨⟨⟨⟨⟨⟨⟨h1, h2⟩, h3⟩, h4⟩, h5⟩, h6⟩, h7⟩, h8⟩, h9⟩ := h
        cases cs with
        | nil => simp [chkEs] at h9
        | cons c cs =>
          cases cs with
          | nil =>
            simp only [chkEs, Bool.and_eq_true] at h9
            exact pe_of (se_lrg (m := m) hC h1 h2 (by simpa using h3) h4 h5 h6 (by simpa using h7) (soundE c hC _ h9.1.2) h8) fun rho S => by (simp only [evE, evEs, R.bind_assoc, R.ok_bind]) <;> rfl
          | cons _ _ => simp [chkEs] at h9
      · rename_i y p2 a' pos2
        simp only [Bool.and_eq_true, decide_eq_true_eq] at h
        obtain ⟨⟨⟨⟨⟨⟨⟨⟨h1, h2⟩, h3⟩, h4⟩, h5⟩, h6⟩, h7⟩, h8⟩, h9⟩ := h
        cases cs with
        | nil => simp [chkEs] at h9
        | cons c cs =>
          cases cs with
          | nil =>
            simp only [chkEs, Bool.and_eq_true] at h9
            exact pe_of (se_trg (m := m) hC h1 h2 (by simpa using h3) h4 h5 h6 (by simpa using h7) (soundE c hC _ h9.1.2) h8) fun rho S => by (simp only [evE, evEs, R.bind_assoc, R.ok_bind]) <;> rfl
          | cons _ _ => simp [chkEs] at h9
      · rename_i y p2 a' pos2
        simp only [Bool.and_eq_true, decide_eq_true_eq] at h
        obtain ⟨⟨⟨⟨⟨⟨⟨h1, h2⟩, h3⟩, h5⟩, h6⟩, h7⟩, h8⟩, h9⟩ := h
        cases cs with
        | nil => simp [chkEs] at h9
        | cons c cs =>
          cases cs with
          | nil =>
            simp only [chkEs, Bool.and_eq_true] at h9
            subst h5
            exact pe_of (se_set (m := m) (srt := true) hC.calm h1 (hC.glb _ h2) (hC.blt _ (by simpa using h3)) (hC.glb _ h6) (hC.blt _ (by simpa using h7)) (soundE c hC _ h9.1.2) (star_of h8)) fun rho S => by (simp only [evE, evEs, R.bind_assoc, R.ok_bind]) <;> rfl
          | cons _ _ => simp [chkEs] at h9
      · rename_i y p2 a' pos2
        simp only [Bool.and_eq_true, decide_eq_true_eq] at h
        obtain ⟨⟨⟨⟨⟨⟨⟨h1, h2⟩, h3⟩, h5⟩, h6⟩, h7⟩, h8⟩, h9⟩ := h
        cases cs with
        | nil => simp [chkEs] at h9
        | cons c cs =>
          cases cs with
          | nil =>
            simp only [chkEs, Bool.and_eq_true] at h9
            subst h5
            exact pe_of (se_set (m := m) (srt := false) hC.calm h1 (hC.glb _ h2) (hC.blt _ (by simpa using h3)) (hC.glb _ h6) (hC.blt _ (by simpa using h7)) (soundE c hC _ h9.1.2) (star_of h8)) fun rho S => by (simp only [evE, evEs, R.bind_assoc, R.ok_bind]) <;> rfl
          | cons _ _ => simp [chkEs] at h9
      · simp only [Bool.and_eq_true, decide_eq_true_eq] at h
        obtain ⟨⟨⟨⟨⟨h1, h2⟩, h3⟩, h4⟩, h5⟩, h6⟩ := h
        exact pe_of (se_bt (m := m) hC h2 h1 h3 h4 (by simpa using h5) (soundEs cs hC _ h6) (chkEs_star h6).1) fun rho S => by (simp only [evE]) <;> rfl
      · cases h
    · rename_i a' op y p2 b' pos2 pos
      split at h
      · simp only [Bool.and_eq_true, decide_eq_true_eq] at h
        obtain ⟨⟨⟨⟨⟨rfl, rfl⟩, h3⟩, h4⟩, h5⟩, h6⟩ := h
        cases cs with
        | nil => simp [chkEs] at h6
        | cons c1 cs =>
          cases cs with
          | nil => simp [chkEs] at h6
          | cons c2 cs =>
            cases cs with
            | nil =>
              simp only [chkEs, Bool.and_eq_true] at h6
              exact pe_of (se_inrg false (hC.glb _ h3) (hC.blt _ (by simpa using h4)) (soundE c1 hC _ h6.1.2) (soundE c2 hC _ h6.2.1.2) (star_of h5)) fun rho S => by (simp only [evE, evEs, R.bind_assoc, R.ok_bind]) <;> rfl
            | cons _ _ => simp [chkEs] at h6
      · simp only [Bool.and_eq_true, decide_eq_true_eq] at h
        obtain ⟨⟨⟨⟨⟨rfl, rfl⟩, h3⟩, h4⟩, h5⟩, h6⟩ := h
        cases cs with
        | nil => simp [chkEs] at h6
        | cons c1 cs =>
          cases cs with
          | nil => simp [chkEs] at h6
          | cons c2 cs =>
            cases cs with
            | nil =>
              simp only [chkEs, Bool.and_eq_true] at h6
              exact pe_of (se_inrg true (hC.glb _ h3) (hC.blt _ (by simpa using h4)) (soundE c1 hC _ h6.1.2) (soundE c2 hC _ h6.2.1.2) (star_of h5)) fun rho S => by (simp only [evE, evEs, R.bind_assoc, R.ok_bind]) <;> rfl
            | cons _ _ => simp [chkEs] at h6
      · cases h
    · cases h
  | .mth t o cs, sc, X, hC, e, h => by
    unfold chkE at h
    split at h
    · split at h
      · simp only [Bool.and_eq_true, decide_eq_true_eq] at h
        obtain ⟨⟨⟨h1, h2⟩, h3⟩, h4⟩ := h
        subst h1
        exact pe_of (se_upr (base_of h2) h3 (soundE o hC _ h4)) fun rho S => by (simp only [evE, evEs, R.ok_bind]) <;> rfl
      · cases h
    · simp only [Bool.and_eq_true, decide_eq_true_eq] at h
      obtain ⟨⟨⟨⟨⟨⟨h1, h2⟩, h3⟩, h4⟩, h5⟩, h6⟩, h7⟩ := h
      exact pe_of (se_mt hC h2 h1 h3 h4 h5 (soundE o hC _ h6) (soundEs cs hC _ h7) (chkEs_star h7).1) fun rho S => by (simp only [evE]) <;> rfl
    · cases h
  | .comp m own g one kk its c e0, sc, X, hC, e, h => by
    unfold chkE at h
    split at h
    · rename_i elt gens scope pos
      split at h
      · rename_i tg iter ifs as
        simp only [Bool.and_eq_true, decide_eq_true_eq] at h
        obtain ⟨⟨⟨⟨⟨⟨rfl, h2⟩, h3⟩, h4⟩, h5⟩, h6⟩, h7⟩ := h
        have hmap : (ownP N own).map (·.2) = own := by
          unfold ownP
          rw [List.map_map]
          exact List.map_id' own
        have hgo : ∀ i ∈ g, i ∈ (ownP N own).map (·.2) := fun i hi => by
          rw [hmap]
          have := List.all_eq_true.mp h3 i hi
          simpa using this
        obtain ⟨hi, hs⟩ := soundI kk its hC tg iter h5
        have ht : ∀ (s : Shared) (H : Hp) (C : Addr) (cl : List (Str × Addr)) (fp : List Addr), PTs (X.blk s H scope (compEnvC scope cl C X.env) fp) ifs (tEvT X.kw (evE (gOf P k) c)) := by
          intro s H C cl fp
          split at h6
          · unfold isYes at h6
            split at h6
            · exact ⟨fun pins s σ H Q I q => sts_nil.run pins s σ H Q I (tEvT.of (fun rho S => by simp only [evE]) q)⟩
            · cases h6
          · exact sts_one (soundT c (hC.blk (own := ownP N own) s H C cl fp) _ h6)
          · cases h6
        refine pe_of (se_comp (m := m) (own := ownP N own) (g := g) (one := one) hC.calm (by rw [hC.n]; exact hC.nd) hi (BlkOk.by_sc hC h2) hgo (fun s H C cl fp => target_pg (hC.blk (own := ownP N own) s H C cl fp) h4) ht (fun s H C cl fp => soundE e0 (hC.blk (own := ownP N own) s H C cl fp) _ h7) hs) fun rho S => ?_
        rw [hmap]
        simp only [evE, R.bind_assoc, R.ok_bind]
        rfl
      · cases h
    · cases h
termination_by c => (sizeOf c, 0)
theorem soundEs : ∀ (cs : List E) {sc : Scope} {X : Cx} (hC : Cok P T k N sc X) (es : List Expr), chkEs T N sc cs es = true → PA X es (tEvs X.kw (evEs (gOf P k) cs))
  | [], sc, X, hC, es, h => by
    unfold chkEs at h
    split at h
    · exact pa_of sa_nil fun rho S => by simp only [evEs]
    · cases h
  | c :: cs, sc, X, hC, es, h => by
    unfold chkEs at h
    split at h
    · simp only [Bool.and_eq_true] at h
      exact pa_of (sa_cons (soundE c hC _ h.1.2) (soundEs cs hC _ h.2) (star_of h.1.1)) fun rho S => by simp only [evEs]
    · cases h
termination_by c => (sizeOf c, 0)
theorem soundA : ∀ (cs : List E) {sc : Scope} {X : Cx} (hC : Cok P T k N sc X) (es : List Expr), chkEs T N sc cs es = true → ∀ {pos : Pos}, PE X (.BoolOp .And es pos) (tEv X.kw (evAnd (gOf P k) cs))
  | [], sc, X, hC, es, h, pos => ⟨fun pins s σ H Q I ⟨al, U, S, rho, d, S', sr, er, e, q⟩ => by simp only [evAnd] at e; cases e⟩
  | [c], sc, X, hC, es, h, pos => by
    unfold chkEs at h
    split at h
    · simp only [Bool.and_eq_true] at h
      obtain ⟨⟨h1, h2⟩, h3⟩ := h
      unfold chkEs at h3
      split at h3
      · exact pe_of (se_one (soundE c hC _ h2)) fun rho S => by simp only [evAnd]
      · cases h3
    · cases h
  | c :: d :: cs, sc, X, hC, es, h, pos => by
    have h0 := h
    unfold chkEs at h
    split at h
    · rename_i e es'
      simp only [Bool.and_eq_true] at h
      obtain ⟨⟨h1, h2⟩, h3⟩ := h
      cases es' with
      | nil => simp [chkEs] at h3
      | cons e' es' => exact pe_of (se_and (soundE c hC _ h2) (soundA (d :: cs) hC _ h3)) fun rho S => by (simp only [evAnd]) <;> rfl
    · cases h
termination_by c => (sizeOf c, 0)
theorem soundO : ∀ (cs : List E) {sc : Scope} {X : Cx} (hC : Cok P T k N sc X) (es : List Expr), chkEs T N sc cs es = true → ∀ {pos : Pos}, PE X (.BoolOp .Or es pos) (tEv X.kw (evOr (gOf P k) cs))
  | [], sc, X, hC, es, h, pos => ⟨fun pins s σ H Q I ⟨al, U, S, rho, d, S', sr, er, e, q⟩ => by simp only [evOr] at e; cases e⟩
  | [c], sc, X, hC, es, h, pos => by
    unfold chkEs at h
    split at h
    · simp only [Bool.and_eq_true] at h
      obtain ⟨⟨h1, h2⟩, h3⟩ := h
      unfold chkEs at h3
      split at h3
      · exact pe_of (se_one (soundE c hC _ h2)) fun rho S => by simp only [evOr]
      · cases h3
    · cases h
  | c :: d :: cs, sc, X, hC, es, h, pos => by
    unfold chkEs at h
    split at h
    · rename_i e es'
      simp only [Bool.and_eq_true] at h
      obtain ⟨⟨h1, h2⟩, h3⟩ := h
      cases es' with
      | nil => simp [chkEs] at h3
      | cons e' es' => exact pe_of (se_or (soundE c hC _ h2) (soundO (d :: cs) hC _ h3)) fun rho S => by (simp only [evOr]) <;> rfl
    · cases h
termination_by c => (sizeOf c, 0)
theorem soundWA : ∀ (cs : List E) {sc : Scope} {X : Cx} (hC : Cok P T k N sc X) (es : List Expr), chkEs T N sc cs es = true → ∀ {pos : Pos}, PW X (.BoolOp .And es pos) (tEvT X.kw (evAnd (gOf P k) cs))
  | [], sc, X, hC, es, h, pos => ⟨fun wh pins s σ H Q I ⟨al, U, S, rho, d, S', sr, er, e, q⟩ => by simp only [evAnd] at e; cases e⟩
  | [c], sc, X, hC, es, h, pos => by
    unfold chkEs at h
    split at h
    · simp only [Bool.and_eq_true] at h
      obtain ⟨⟨h1, h2⟩, h3⟩ := h
      unfold chkEs at h3
      split at h3
      · exact pw_of (sw_and1 (soundT c hC _ h2)) fun rho S => by simp only [evAnd]
      · cases h3
    · cases h
  | c :: d :: cs, sc, X, hC, es, h, pos => by
    unfold chkEs at h
    split at h
    · rename_i e es'
      simp only [Bool.and_eq_true] at h
      obtain ⟨⟨h1, h2⟩, h3⟩ := h
      cases es' with
      | nil => simp [chkEs] at h3
      | cons e' es' => exact pw_of (sw_and (soundT c hC _ h2) (soundWA (d :: cs) hC _ h3)) fun rho S => by (simp only [evAnd]) <;> rfl
    · cases h
termination_by c => (sizeOf c, 0)
theorem soundWO : ∀ (cs : List E) {sc : Scope} {X : Cx} (hC : Cok P T k N sc X) (es : List Expr), chkEs T N sc cs es = true → ∀ {pos : Pos}, PW X (.BoolOp .Or es pos) (tEvT X.kw (evOr (gOf P k) cs))
  | [], sc, X, hC, es, h, pos => ⟨fun wh pins s σ H Q I ⟨al, U, S, rho, d, S', sr, er, e, q⟩ => by simp only [evOr] at e; cases e⟩
  | [c], sc, X, hC, es, h, pos => by
    unfold chkEs at h
    split at h
    · simp only [Bool.and_eq_true] at h
      obtain ⟨⟨h1, h2⟩, h3⟩ := h
      unfold chkEs at h3
      split at h3
      · exact pw_of (sw_or1 (soundT c hC _ h2)) fun rho S => by simp only [evOr]
      · cases h3
    · cases h
  | c :: d :: cs, sc, X, hC, es, h, pos => by
    unfold chkEs at h
    split at h
    · rename_i e es'
      simp only [Bool.and_eq_true] at h
      obtain ⟨⟨h1, h2⟩, h3⟩ := h
      cases es' with
      | nil => simp [chkEs] at h3
      | cons e' es' => exact pw_of (sw_or (soundT c hC _ h2) (soundWO (d :: cs) hC _ h3)) fun rho S => by (simp only [evOr]) <;> rfl
    · cases h
termination_by c => (sizeOf c, 0)
theorem soundI (kk : IK) : ∀ (cs : List E) {sc : Scope} {X : Cx} (hC : Cok P T k N sc X) (tg iter : Expr), chkI T N sc kk tg cs iter = true → PI X tg iter (tEvI X.kw fun rho S => (evEs (gOf P k) cs rho S).bind fun p => (itrD kk p.1 p.2).bind fun it => .ok (it, p.2)) ∧ ∀ x, foldedSetIterable iter X.env x = pure x
  | [], sc, X, hC, tg, iter, h => by
    unfold chkI at h
    cases h
  | [c], sc, X, hC, tg, iter, h => by
    unfold chkI at h
    split at h
    · simp only [Bool.and_eq_true] at h
      exact ⟨pi_of (si_sq (soundE c hC _ h.2)) fun rho S => by simp only [evEs, R.bind_assoc, R.ok_bind], fold_of h.1⟩
    · split at h
      · simp only [Bool.and_eq_true, decide_eq_true_eq] at h
        obtain ⟨⟨⟨⟨rfl, h2⟩, h3⟩, h4⟩, h5⟩ := h
        refine ⟨pi_of (si_rng1 (hC.glb _ h2) (hC.blt _ (by simpa using h3)) (sa_cons (soundE c hC _ h5) sa_nil (star_of h4)) (star_of h4)) fun rho S => by simp only [evEs, R.bind_assoc, R.ok_bind], fun _ => rfl⟩
      · cases h
    · cases h
  | [c, d], sc, X, hC, tg, iter, h => by
    unfold chkI at h
    split at h
    · split at h
      · simp only [Bool.and_eq_true, decide_eq_true_eq] at h
        obtain ⟨⟨⟨⟨⟨⟨rfl, h2⟩, h3⟩, h4⟩, h5⟩, h6⟩, h7⟩ := h
        refine ⟨pi_of (si_rng2 (hC.glb _ h2) (hC.blt _ (by simpa using h3)) (sa_cons (soundE c hC _ h6) (sa_cons (soundE d hC _ h7) sa_nil (star_of h5)) (star_of h4)) (by rw [star_of h4, star_of h5]; rfl) (star_of h5)) fun rho S => by simp only [evEs, R.bind_assoc, R.ok_bind], fun _ => rfl⟩
      · cases h
    · split at h
      · simp only [Bool.and_eq_true, decide_eq_true_eq] at h
        obtain ⟨⟨⟨⟨⟨⟨⟨rfl, h2⟩, h3⟩, h4⟩, h5⟩, h8⟩, h6⟩, h7⟩ := h
        cases tg with
        | Tuple elts kk2 tpos =>
          refine ⟨pi_of (si_zip2 hC.calm (hC.glb _ h2) (hC.blt _ (by simpa using h3)) (sa_cons (soundE c hC _ h6) (sa_cons (soundE d hC _ h7) sa_nil (star_of h5)) (star_of h4)) (by rw [star_of h4]) (by rw [star_of h5]; rfl)) fun rho S => by simp only [evEs, R.bind_assoc, R.ok_bind], fun _ => rfl⟩
        | _ => cases h8
      · cases h
    · cases h
  | [c, d, f], sc, X, hC, tg, iter, h => by
    unfold chkI at h
    split at h
    · split at h
      · simp only [Bool.and_eq_true, decide_eq_true_eq] at h
        obtain ⟨⟨⟨⟨⟨⟨⟨⟨rfl, h2⟩, h3⟩, h4⟩, h5⟩, h5'⟩, h6⟩, h7⟩, h8⟩ := h
        refine ⟨pi_of (si_rng3 (hC.glb _ h2) (hC.blt _ (by simpa using h3)) (sa_cons (soundE c hC _ h6) (sa_cons (soundE d hC _ h7) (sa_cons (soundE f hC _ h8) sa_nil (star_of h5')) (star_of h5)) (star_of h4)) (by rw [star_of h4]) (by rw [star_of h5, star_of h5']; rfl)) fun rho S => by simp only [evEs, R.bind_assoc, R.ok_bind], fun _ => rfl⟩
      · cases h
    · cases h
  | _ :: _ :: _ :: _ :: _, sc, X, hC, tg, iter, h => by
    unfold chkI at h
    cases h
termination_by c => (sizeOf c, 0)
theorem soundT : ∀ (c : E) {sc : Scope} {X : Cx} (hC : Cok P T k N sc X) (e : Expr), chkE T N sc c e = true → PT X e (tEvT X.kw (evE (gOf P k) c))
  | .not a, sc, X, hC, e, h => by
    unfold chkE at h
    split at h
    · exact pt_of (st_not (soundT a hC _ h)) fun rho S => by (simp only [evE]) <;> rfl
    · cases h
  | .and cs, sc, X, hC, e, h => by
    unfold chkE at h
    split at h
    · exact pt_of (soundWA cs hC _ h).pt fun rho S => by (simp only [evE]) <;> rfl
    · cases h
  | .or cs, sc, X, hC, e, h => by
    unfold chkE at h
    split at h
    · exact pt_of (soundWO cs hC _ h).pt fun rho S => by (simp only [evE]) <;> rfl
    · cases h
  | .cmp o a b, sc, X, hC, e, h => by
    unfold chkE at h
    split at h
    · simp only [Bool.and_eq_true, decide_eq_true_eq] at h
      obtain ⟨⟨⟨rfl, h1⟩, h2⟩, h3⟩ := h
      exact pt_of (st_cmp (hu64 hC) o (soundE a hC _ h2) (soundE b hC _ h3) (nomark_of h1)) fun rho S => by (simp only [evE]) <;> rfl
    · cases h
  | .chain o o' a b c, sc, X, hC, e, h => by
    unfold chkE at h
    split at h
    · simp only [Bool.and_eq_true, decide_eq_true_eq] at h
      obtain ⟨⟨⟨⟨⟨⟨rfl, rfl⟩, h1⟩, h1'⟩, h2⟩, h3⟩, h4⟩ := h
      exact pt_of (st_chain (hu64 hC) o o' (soundE a hC _ h2) (soundE b hC _ h3) (soundE c hC _ h4) (lastMarks_of h1')) fun rho S => by (simp only [evE]) <;> rfl
    · cases h
  | .var i, sc, X, hC, e, h => st_val (soundE (.var i) hC e h) (by unfold chkE at h; split at h <;> first | exact fun _ => rfl | cases h)
  | .con d, sc, X, hC, e, h => st_val (soundE (.con d) hC e h) (by unfold chkE at h; split at h <;> first | exact fun _ => rfl | cases h)
  | .glo x, sc, X, hC, e, h => st_val (soundE (.glo x) hC e h) (by unfold chkE at h; split at h <;> first | exact fun _ => rfl | cases h)
  | .ix a i, sc, X, hC, e, h => st_val (soundE (.ix a i) hC e h) (by unfold chkE at h; split at h <;> first | exact fun _ => rfl | cases h)
  | .call f cs, sc, X, hC, e, h => st_val (soundE (.call f cs) hC e h) (by unfold chkE at h; split at h <;> first | exact fun _ => rfl | cases h)
  | .blt m b cs, sc, X, hC, e, h => by
    have hv := soundE (.blt m b cs) hC e h
    unfold chkE at h
    split at h
    · exact st_val hv fun _ => rfl
    · rename_i a' op y p2 b' pos2 pos
      split at h
      · simp only [Bool.and_eq_true, decide_eq_true_eq] at h
        obtain ⟨⟨⟨⟨⟨rfl, rfl⟩, h3⟩, h4⟩, h5⟩, h6⟩ := h
        cases cs with
        | nil => simp [chkEs] at h6
        | cons c1 cs =>
          cases cs with
          | nil => simp [chkEs] at h6
          | cons c2 cs =>
            cases cs with
            | nil =>
              simp only [chkEs, Bool.and_eq_true] at h6
              exact pt_of (st_inrg false (hC.glb _ h3) (hC.blt _ (by simpa using h4)) (soundE c1 hC _ h6.1.2) (soundE c2 hC _ h6.2.1.2) (star_of h5)) fun rho S => by (simp only [evE, evEs, R.bind_assoc, R.ok_bind]) <;> rfl
            | cons _ _ => simp [chkEs] at h6
      · simp only [Bool.and_eq_true, decide_eq_true_eq] at h
        obtain ⟨⟨⟨⟨⟨rfl, rfl⟩, h3⟩, h4⟩, h5⟩, h6⟩ := h
        cases cs with
        | nil => simp [chkEs] at h6
        | cons c1 cs =>
          cases cs with
          | nil => simp [chkEs] at h6
          | cons c2 cs =>
            cases cs with
            | nil =>
              simp only [chkEs, Bool.and_eq_true] at h6
              exact pt_of (st_inrg true (hC.glb _ h3) (hC.blt _ (by simpa using h4)) (soundE c1 hC _ h6.1.2) (soundE c2 hC _ h6.2.1.2) (star_of h5)) fun rho S => by (simp only [evE, evEs, R.bind_assoc, R.ok_bind]) <;> rfl
            | cons _ _ => simp [chkEs] at h6
      · cases h
    · cases h
  | .callv i cs, sc, X, hC, e, h => st_val (soundE (.callv i cs) hC e h) (by unfold chkE at h; split at h <;> first | exact fun _ => rfl | cases h)
  | .mth t o cs, sc, X, hC, e, h => st_val (soundE (.mth t o cs) hC e h) (by unfold chkE at h; split at h <;> first | exact fun _ => rfl | cases h)
  | .tup cs, sc, X, hC, e, h => st_val (soundE (.tup cs) hC e h) (by unfold chkE at h; split at h <;> first | exact fun _ => rfl | cases h)
  | .lst m cs, sc, X, hC, e, h => st_val (soundE (.lst m cs) hC e h) (by unfold chkE at h; split at h <;> first | exact fun _ => rfl | cases h)
  | .dcn ks vs, sc, X, hC, e, h => st_val (soundE (.dcn ks vs) hC e h) (by unfold chkE at h; split at h <;> first | exact fun _ => rfl | cases h)
  | .orv a b, sc, X, hC, e, h => ⟨fun pins s σ H Q I ⟨al, U, S, rho, d, S', sr, er, e, q⟩ => by
      exfalso
      simp only [evE] at e
      obtain ⟨⟨d1, S1⟩, e1, e⟩ := R.bind_ok e
      have no : ∀ r : R (D × Store), r.bind tupOnly = .ok (.bl d, S') → False := fun r e => by
        obtain ⟨⟨d2, S2⟩, e2, e⟩ := R.bind_ok e
        unfold tupOnly at e
        simp only at e
        split at e <;> cases e
      simp only at e
      split at e
      · cases e
      · exact no _ e
      · exact no _ e
      · cases e⟩
  | .dct ks vs, sc, X, hC, e, h => st_val (soundE (.dct ks vs) hC e h) (by unfold chkE at h; split at h <;> first | exact fun _ => rfl | cases h)
  | .bin o a b, sc, X, hC, e, h => st_val (soundE (.bin o a b) hC e h) (by unfold chkE at h; split at h <;> first | exact fun _ => rfl | cases h)
  | .neg a, sc, X, hC, e, h => st_val (soundE (.neg a) hC e h) (by unfold chkE at h; split at h <;> first | exact fun _ => rfl | cases h)
  | .sl m a l lo hh hi, sc, X, hC, e, h => st_val (soundE (.sl m a l lo hh hi) hC e h) (by unfold chkE at h; split at h <;> first | exact fun _ => rfl | cases h)
  | .rev a, sc, X, hC, e, h => st_val (soundE (.rev a) hC e h) (by unfold chkE at h; split at h <;> first | exact fun _ => rfl | cases h)
  | .no, sc, X, hC, e, h => by unfold chkE at h; cases h
  | .comp m own g one kk its c e0, sc, X, hC, e, h => st_val (soundE (.comp m own g one kk its c e0) hC e h) (by unfold chkE at h; split at h <;> first | exact fun _ => rfl | cases h)
termination_by c => (sizeOf c, 1)
end
end
end Z

set_option Elab.async false
set_option linter.all false
set_option maxRecDepth 100000
set_option maxHeartbeats 8000000
/-! Stm: statements, defs. -/
namespace Z
open PySem L2 PySem.Spec PyProof.Rows

def notComp : Expr → Bool
  | .ListComp _ _ _ _ => false
  | .SetComp _ _ _ _ => false
  | .DictComp _ _ _ _ _ => false
  | _ => true
def notName : Expr → Bool
  | .Name _ _ => false
  | _ => true
mutual
def chkG (T : Tab) (N : List Str) (sc : Scope) : Tg → Expr → Bool
  | .nm i, e => match e with
    | .Name x _ => decide (N[i]? = some x) && locC sc x
    | _ => false
  | .tp gs, e => match e with
    | .Tuple es _ _ => chkGs T N sc gs es
    | _ => false
  | .sub o i, e => match e with
    | .Subscript o' i' _ => notSlice i' && chkE T N sc o o' && chkE T N sc i i'
    | _ => false
def chkGs (T : Tab) (N : List Str) (sc : Scope) : List Tg → List Expr → Bool
  | [], es => match es with
    | [] => true
    | _ => false
  | g :: gs, es => match es with
    | e :: es => notStar e && chkG T N sc g e && chkGs T N sc gs es
    | _ => false
end
def lclX (sc : Scope) : Expr → Bool
  | .Name x _ => decide (sc.names.lookup x = some .local)
  | _ => false
/-- the two sides of a statement of two tuples: stored in order, nothing known ahead -/
def swNone (sc : Scope) (tg v : Expr) : Bool := match tg, v with
  | .Tuple ts _ _, .Tuple _ _ _ => !(ts.length == 2 || ts.length == 3) || !(ts.all (lclX sc))
  | .List _ _, _ => false
  | _, _ => true
mutual
def chkS (T : Tab) (N : List Str) (sc : Scope) : S → Stmt → Bool
  | .asg g e, s => match s with
    | .Assign [tg] v spos => match g, tg with
      | .nm i, .Name y py => decide (N[i]? = some y) && locC sc y && chkE T N sc e v &&
          (match v with
          | .ListComp _ _ scope pos => if decide (sc.names.lookup y = some .local) && (py.line == pos.line) then !(scope.names.any fun (n, k) => n == y && (k == .local || k == .cell)) else true
          | .SetComp _ _ _ _ => false
          | .DictComp _ _ _ _ _ => false
          | _ => true)
      | g, tg => chkE T N sc e v && chkG T N sc g tg && notName tg && notStar tg && swNone sc tg v
    | _ => false
  | .exp e, s => match s with
    | .Expr v _ => chkE T N sc e v && notComp v
    | _ => false
  | .ite c a b, s => match s with
    | .If t x y _ => chkE T N sc c t && chkSs T N sc a x && chkSs T N sc b y
    | _ => false
  | .fo g one k its body, s => match s with
    | .For tg iter x [] _ => chkT N sc g one tg && chkI T N sc k tg its iter && chkSs T N sc body x
    | _ => false
  | .whl c body, s => match s with
    | .While t x [] _ => chkE T N sc c t && chkSs T N sc body x
    | _ => false
  | .ret e, s => match s with
    | .Return (some v) _ => chkE T N sc e v
    | _ => false
  | .pas, s => match s with
    | .Pass _ => true
    | _ => false
  | .brk, s => match s with
    | .Break _ => true
    | _ => false
  | .cnt, s => match s with
    | .Continue _ => true
    | _ => false
  | .rse, _ => true
def chkSs (T : Tab) (N : List Str) (sc : Scope) : List S → List Stmt → Bool
  | [], ss => match ss with
    | [] => true
    | _ => false
  | c :: cs, ss => match ss with
    | s :: ss => chkS T N sc c s && chkSs T N sc cs ss
    | _ => false
end

structure Sok (P : Pg) (T : Tab) (k : Nat) (N : List Str) (sc : Scope) (X : Cx) : Prop extends Cok P T k N sc X where
  sce : X.env.scope = sc
  fnt : ∀ x, X.fn x = true
  knd : sc.kind = .function
  own : PassesOwn (model X.prog X.w) X.A X.env X.xe

theorem assign_sub {o i : Expr} {pos : Pos} {env : PySem.Env} (h : notSlice i = true) : ∀ v, assign (.Subscript o i pos) env v = (do
      let ov ← holding [v] (eval o env)
      let iv ← holding [v, ov] (eval i env)
      standAt pos
      holding [v, ov, iv] (setItem ov iv v)
      release [v, ov, iv] []) := fun v => by
  cases i <;> first | rfl | cases h
theorem swaps_none {e : Expr} {tg : Option Expr} {l : Nat} {env : PySem.Env} (h : notComp e = true) : swapsWith e tg l env = pure false := by
  cases e <;> first | rfl | cases h
theorem swaps_sub {e tg : Expr} {l : Nat} {env : PySem.Env} (h : notName tg = true) : swapsWith e (some tg) l env = pure false := by
  cases e <;> first | rfl | (cases tg <;> first | rfl | cases h)
theorem each_one {tg : Expr} {env : PySem.Env} (h : notStar tg = true) : (assignEach [tg] env).map (·.2) = [assign tg env] := by
  cases tg <;> first | rfl | cases h
theorem each_cons {tg : Expr} {es : List Expr} {env : PySem.Env} (h : notStar tg = true) : assignEach (tg :: es) env = (false, assign tg env) :: assignEach es env := by
  cases tg <;> first | rfl | cases h
section
variable {P : Pg} {T : Tab} {k : Nat} {N : List Str} {sc : Scope} {X : Cx}
theorem fewer {f : Expr → Option Str} {p : Expr → Bool} (hf : ∀ t, p t = false → f t = none) : ∀ ts : List Expr, ts.all p = false → (ts.filterMap f).length < ts.length
  | [], h => by simp at h
  | t :: ts, h => by
    rw [List.all_cons, Bool.and_eq_false_iff] at h
    have hl : (ts.filterMap f).length ≤ ts.length := List.length_filterMap_le _ _
    by_cases hlc : p t = false
    · rw [List.filterMap_cons_none (hf t hlc), List.length_cons]
      omega
    · have ih' := fewer hf ts (h.resolve_left hlc)
      rw [List.filterMap_cons, List.length_cons]
      split
      · omega
      · rw [List.length_cons]; omega
theorem swapped_none (hS : Sok P T k N sc X) {tg v : Expr} (h : swNone sc tg v = true) : swappedStores [tg] v X.env = pure none := by
  unfold swappedStores
  cases tg with
  | Tuple ts kt pt =>
    cases v with
    | Tuple vs kv pv =>
      simp only [swNone, Bool.or_eq_true, Bool.not_eq_true'] at h
      simp only
      split
      · rfl
      · rename_i h1
        split
        · rfl
        · split
          · rfl
          · rename_i h3
            exfalso
            simp only [Bool.or_eq_true, not_or, bne_iff_ne, ne_eq, Decidable.not_not, Bool.not_eq_true', Bool.not_eq_true] at h1 h3
            rcases h with h | h
            · have := h1.1.1
              rw [Bool.or_eq_false_iff] at h
              simp [h] at this
            · refine absurd h3.1 (Nat.ne_of_lt (fewer (p := lclX sc) ?_ ts h))
              intro t ht
              cases t with
              | Name id pos =>
                have hk : X.env.kindOf id = sc.names.lookup id := by rw [← hS.sce]; rfl
                simp only [lclX, decide_eq_false_iff_not] at ht
                simp only
                rw [hk, if_neg]
                simp only [Bool.and_eq_true, beq_iff_eq]
                exact fun z => ht z.1
              | _ => rfl
    | _ => rfl
  | List es p => cases v <;> cases h
  | _ => cases v <;> rfl
theorem blockKind_fn (hS : Sok P T k N sc X) : X.env.blockKind = .function := by
  unfold PySem.Env.blockKind
  rw [hS.sce, hS.knd]
  rfl
mutual
theorem soundG (hS : Sok P T k N sc X) : ∀ (g : Tg) (e : Expr), chkG T N sc g e = true → PG X e (tEvG X.kw (asg (gOf P k) g))
  | .nm i, e, h => by
    unfold chkG at h
    split at h
    · simp only [Bool.and_eq_true, decide_eq_true_eq] at h
      obtain ⟨l1, l2⟩ := hS.loc _ h.2
      refine pg_weak (sg_nm (by rw [hS.n]; exact hS.nd) (by rw [hS.n]; exact h.1) l1 l2) fun v σ H Q q => ?_
      obtain ⟨al, U, S, rho, d, rho', S', sr, er, rd, e, q⟩ := q
      exact ⟨al, U, S, rho, d, rho', S', sr, er, rd, by simpa only [asg] using e, q⟩
    · cases h
  | .tp gs, e, h => by
    unfold chkG at h
    split at h
    · obtain ⟨a, b, c⟩ := soundGs hS gs _ h
      refine pg_weak (sg_tp hS.calm a b c) fun v σ H Q q => ?_
      obtain ⟨al, U, S, rho, d, rho', S', sr, er, rd, e, q⟩ := q
      refine ⟨al, U, S, rho, d, rho', S', sr, er, rd, ?_, q⟩
      simp only [asg] at e
      exact e
    · cases h
  | .sub o i, e, h => by
    unfold chkG at h
    split at h
    · simp only [Bool.and_eq_true] at h
      refine pg_weak (sg_sub (hu64 hS.toCok) (soundE o hS.toCok _ h.1.2) (soundE i hS.toCok _ h.2) (assign_sub h.1.1)) fun v σ H Q q => ?_
      obtain ⟨al, U, S, rho, d, rho', S', sr, er, rd, e, q⟩ := q
      exact ⟨al, U, S, rho, d, rho', S', sr, er, rd, by simpa only [asg] using e, q⟩
    · cases h
theorem soundGs (hS : Sok P T k N sc X) : ∀ (gs : List Tg) (es : List Expr), chkGs T N sc gs es = true → PGs X es (tEvGs X.kw (asgs (gOf P k) gs)) ∧ (assignEach es X.env).length = gs.length ∧ (assignEach es X.env).findIdx? (·.1) = none
  | [], es, h => by
    unfold chkGs at h
    split at h
    · refine ⟨⟨fun pins s σ H vs us Q I r q => sgs_nil.run pins s σ H vs us Q I r ?_⟩, rfl, rfl⟩
      obtain ⟨al, U, S, rho, ds, rho', S', sr, er, rd, e, q⟩ := q
      refine ⟨al, U, S, rho, ds, rho', S', sr, er, rd, ?_, q⟩
      cases ds with
      | nil => simpa only [asgs] using e
      | cons _ _ => simp only [asgs] at e; cases e
    · cases h
  | g :: gs, es, h => by
    unfold chkGs at h
    split at h
    · rename_i e es'
      simp only [Bool.and_eq_true] at h
      obtain ⟨⟨h1, h2⟩, h3⟩ := h
      obtain ⟨a, b, c⟩ := soundGs hS gs es' h3
      refine ⟨⟨fun pins s σ H vs us Q I r q => (sgs_cons (soundG hS g e h2) a (by rw [each_cons h1]; rfl)).run pins s σ H vs us Q I r ?_⟩, ?_, ?_⟩
      · obtain ⟨al, U, S, rho, ds, rho', S', sr, er, rd, e, q⟩ := q
        refine ⟨al, U, S, rho, ds, rho', S', sr, er, rd, ?_, q⟩
        cases ds with
        | nil => simp only [asgs] at e; cases e
        | cons _ _ => simpa only [asgs] using e
      · rw [each_cons h1, List.length_cons, b, List.length_cons]
      · rw [each_cons h1, List.findIdx?_cons, c]
        rfl
    · cases h
end
end
end Z

set_option Elab.async false
set_option linter.all false
set_option maxRecDepth 100000
set_option maxHeartbeats 8000000
/-! Stm2: the whole of statements; defs. -/
namespace Z
open PySem L2 PySem.Spec PyProof.Rows
section
variable {P : Pg} {T : Tab} {k : Nat} {N : List Str} {sc : Scope} {X : Cx}
theorem own_map (N : List Str) (own : List Nat) : (ownP N own).map (·.2) = own := by
  unfold ownP
  rw [List.map_map]
  exact List.map_id' own
theorem comp_parts (hC : Cok P T k N sc X) {m : Bool} {own g : List Nat} {one : Bool} {kk : IK} {its : List E} {c e0 : E} {elt : Expr} {gens : List Comprehension} {scope : Scope} {pos : Pos} (h : chkE T N sc (.comp m own g one kk its c e0) (.ListComp elt gens scope pos) = true) :
    ∃ tg iter ifs, gens = [⟨tg, iter, ifs, 0⟩] ∧ PI X tg iter (tEvI X.kw fun rho S => (evEs (gOf P k) its rho S).bind fun p => (itrD kk p.1 p.2).bind fun it => .ok (it, p.2)) ∧ BlkOk X.N X.env.scope scope (ownP N own) ∧ (∀ i ∈ g, i ∈ (ownP N own).map (·.2)) ∧
      (∀ (s : Shared) (H : Hp) (C : Addr) (cl : List (Str × Addr)) (fp : List Addr), PG (X.blk s H scope (compEnvC scope cl C X.env) fp) tg (gB X.kw g one)) ∧
      (∀ (s : Shared) (H : Hp) (C : Addr) (cl : List (Str × Addr)) (fp : List Addr), PTs (X.blk s H scope (compEnvC scope cl C X.env) fp) ifs (tEvT X.kw (evE (gOf P k) c))) ∧
      (∀ (s : Shared) (H : Hp) (C : Addr) (cl : List (Str × Addr)) (fp : List Addr), PE (X.blk s H scope (compEnvC scope cl C X.env) fp) elt (tEv X.kw (evE (gOf P k) e0))) ∧ (∀ x, foldedSetIterable iter X.env x = pure x) := by
  unfold chkE at h
  simp only at h
  split at h
  · rename_i tg iter ifs as
    simp only [Bool.and_eq_true, decide_eq_true_eq] at h
    obtain ⟨⟨⟨⟨⟨⟨rfl, h2⟩, h3⟩, h4⟩, h5⟩, h6⟩, h7⟩ := h
    have hgo : ∀ i ∈ g, i ∈ (ownP N own).map (·.2) := fun i hi => by
      rw [own_map]
      have := List.all_eq_true.mp h3 i hi
      simpa using this
    obtain ⟨hi, hs⟩ := soundI kk its hC tg iter h5
    refine ⟨tg, iter, ifs, rfl, hi, BlkOk.by_sc hC h2, hgo, fun s H C cl fp => target_pg (hC.blk (own := ownP N own) s H C cl fp) h4, fun s H C cl fp => ?_, fun s H C cl fp => soundE e0 (hC.blk (own := ownP N own) s H C cl fp) _ h7, hs⟩
    split at h6
    · unfold isYes at h6
      split at h6
      · exact ⟨fun pins s σ H Q I q => sts_nil.run pins s σ H Q I (tEvT.of (fun rho S => by simp only [evE]) q)⟩
      · cases h6
    · exact sts_one (soundT c (hC.blk (own := ownP N own) s H C cl fp) _ h6)
    · cases h6
  · cases h
theorem ps_setComp (hS : Sok P T k N sc X) {i : Nat} {y : Str} {py : Pos} {e : E} {elt : Expr} {gens : List Comprehension} {scope : Scope} {pos spos : Pos} (hN : N[i]? = some y) (hl : locC sc y = true) (h : chkE T N sc e (.ListComp elt gens scope pos) = true)
    (hsw : (if decide (sc.names.lookup y = some .local) && (py.line == pos.line) then !(scope.names.any fun (n, k) => n == y && (k == .local || k == .cell)) else true) = true) :
    PS X (.Assign [.Name y py] (.ListComp elt gens scope pos) spos) (tEvS X.kw fun rho S => (evE (gOf P k) e rho S).bind fun p => .ok (.nx, rho.set i (some p.1), p.2)) := by
  obtain ⟨l1, l2⟩ := hS.loc y hl
  have kk : X.env.kindOf y = sc.names.lookup y := by show X.env.scope.names.lookup y = _; rw [hS.sce]
  by_cases hc : (decide (sc.names.lookup y = some .local) && (py.line == pos.line)) = true
  · rw [if_pos hc] at hsw
    simp only [Bool.and_eq_true, decide_eq_true_eq] at hc
    have hyl : X.env.scope.names.lookup y = some .local := by rw [hS.sce]; exact hc.1
    cases e with
    | comp m own g one kk its c e0 =>
      obtain ⟨tg, iter, ifs, rfl, hi, ok, hgo, hg, ht, he, hs⟩ := comp_parts hS.toCok h
      refine ps_of (ss_setLc (m := m) (one := one) hS.calm (by rw [hS.n]; exact hS.nd) (by rw [hS.n]; exact hN) hyl (sw_true (by rw [hS.sce]; exact hS.knd) hyl hc.2 (by simpa using hsw)) hi ok hgo hg ht he hs) fun rho S => ?_
      rw [own_map]
      simp only [evE, R.bind_assoc, R.ok_bind]
      rfl
    | dct _ _ => unfold chkE at h; split at h <;> first | contradiction | cases h
    | dcn _ _ => unfold chkE at h; split at h <;> first | contradiction | cases h
    | _ => unfold chkE at h; first | cases h | (split at h <;> first | contradiction | cases h)
  · have hsn : swapsWith (.ListComp elt gens scope pos) (some (.Name y py)) spos.line X.env = pure false := by
      have hc' : (decide (sc.names.lookup y = some .local) && (py.line == pos.line)) = false := by simpa using hc
      have h2 : (X.env.kindOf y == some NameKind.local && py.line == pos.line) = false := by
        rw [kk, ← hc']
        congr 1
        rw [Bool.eq_iff_iff]
        simp
      have h3 : (X.env.blockKind == .function && X.env.kindOf y == some NameKind.local && py.line == pos.line) = false := by
        rw [Bool.and_assoc, h2, Bool.and_false]
      unfold swapsWith
      show (pure (X.env.blockKind == .function && X.env.kindOf y == some .local && py.line == pos.line && !(scope.names.any fun (n, k) => n == y && (k == .local || k == .cell))) : Sem Bool) = pure false
      rw [h3, Bool.false_and]
    exact ss_set (by rw [hS.n]; exact hS.nd) (by rw [hS.n]; exact hN) l1 l2 (soundE e hS.toCok _ h) hsn
mutual
theorem soundS (hS : Sok P T k N sc X) : ∀ (c : S) (st : Stmt), chkS T N sc c st = true → PS X st (tEvS X.kw (evS (gOf P k) c))
  | .asg g e, st, h => by
    unfold chkS at h
    split at h
    · rename_i tg v spos
      split at h
      · rename_i i y py
        rw [Bool.and_eq_true, Bool.and_eq_true, Bool.and_eq_true, decide_eq_true_eq] at h
        obtain ⟨⟨⟨h1, h2⟩, h3⟩, h4⟩ := h
        obtain ⟨l1, l2⟩ := hS.loc y h2
        split at h4
        · exact ps_of (ps_setComp hS h1 h2 h3 h4) fun rho S => by (simp only [evS, asg, R.ok_bind]) <;> rfl
        · cases h4
        · cases h4
        · rename_i hv1 hv2 hv3
          have hn : notComp v = true := by
            cases v <;> first | rfl | exact absurd rfl (hv1 _ _ _ _) | exact absurd rfl (hv2 _ _ _ _) | exact absurd rfl (hv3 _ _ _ _ _)
          exact ps_of (ss_set (by rw [hS.n]; exact hS.nd) (by rw [hS.n]; exact h1) l1 l2 (soundE e hS.toCok _ h3) (swaps_none hn)) fun rho S => by (simp only [evS, asg, R.ok_bind]) <;> rfl
      · simp only [Bool.and_eq_true] at h
        obtain ⟨⟨⟨⟨h1, h2⟩, h3⟩, h4⟩, h5⟩ := h
        exact ps_of (ss_asg (soundE e hS.toCok _ h1) (soundG hS g _ h2) (swaps_sub h3) (swapped_none hS h5) (each_one h4)) fun rho S => by (simp only [evS]) <;> rfl
    · cases h
  | .exp e, st, h => by
    unfold chkS at h
    split at h
    · simp only [Bool.and_eq_true] at h
      exact ps_of (ss_exp (soundE e hS.toCok _ h.1) (swaps_none h.2)) fun rho S => by (simp only [evS]) <;> rfl
    · cases h
  | .ite c a b, st, h => by
    unfold chkS at h
    split at h
    · simp only [Bool.and_eq_true] at h
      exact ps_of (ss_ite (soundT c hS.toCok _ h.1.1) (soundSs hS a _ h.1.2) (soundSs hS b _ h.2)) fun rho S => by (simp only [evS]) <;> rfl
    · cases h
  | .fo g one kk its body, st, h => by
    unfold chkS at h
    split at h
    · simp only [Bool.and_eq_true] at h
      obtain ⟨hi, hs⟩ := soundI kk its hS.toCok _ _ h.1.2
      exact ps_of (ss_for hS.own hS.calm hi (target_pg hS.toCok h.1.1) (soundSs hS body _ h.2) hs) fun rho S => by (simp only [evS, R.bind_assoc, R.ok_bind]) <;> rfl
    · cases h
  | .whl c body, st, h => by
    unfold chkS at h
    split at h
    · simp only [Bool.and_eq_true] at h
      exact ps_of (ss_whl (fuel := P.fuel) hS.own (soundT c hS.toCok _ h.1) (soundSs hS body _ h.2)) fun rho S => by (simp only [evS]) <;> rfl
    · cases h
  | .ret e, st, h => by
    unfold chkS at h
    split at h
    · exact ps_of (ss_ret (soundE e hS.toCok _ h)) fun rho S => by (simp only [evS]) <;> rfl
    · cases h
  | .pas, st, h => by
    unfold chkS at h
    split at h
    · exact ps_of ss_pas fun rho S => by (simp only [evS]) <;> rfl
    · cases h
  | .brk, st, h => by
    unfold chkS at h
    split at h
    · exact ps_of ss_brk fun rho S => by (simp only [evS]) <;> rfl
    · cases h
  | .cnt, st, h => by
    unfold chkS at h
    split at h
    · exact ps_of ss_cnt fun rho S => by (simp only [evS]) <;> rfl
    · cases h
  | .rse, st, h => ps_of ss_bad fun rho S => by (simp only [evS]) <;> rfl
theorem soundSs (hS : Sok P T k N sc X) : ∀ (cs : List S) (ss : List Stmt), chkSs T N sc cs ss = true → PSs X ss (tEvS X.kw (evSs (gOf P k) cs))
  | [], ss, h => by
    unfold chkSs at h
    split at h
    · exact pss_of sss_nil fun rho S => by (simp only [evSs]) <;> rfl
    · cases h
  | c :: cs, ss, h => by
    unfold chkSs at h
    split at h
    · simp only [Bool.and_eq_true] at h
      exact pss_of (sss_cons (soundS hS c _ h.1) (soundSs hS cs _ h.2)) fun rho S => by (simp only [evSs]) <;> rfl
    · cases h
end
end

/-! ### a def -/
/-- what the end hands over of a def: its text, names, code -/
structure Df where
  st : Stmt
  nam : Str
  qual : Str
  N : List Str
  ps : List Str
  fd : Fd
def dfC (T : Tab) (d : Df) : Bool := C8.scC d.N d.ps (defScope d.st) && chkSs T d.N (defScope d.st) d.fd.body (defBody d.st) && decide (d.fd.ps = d.ps.length) && decide (d.fd.ns = d.N.length)
section
variable {P : Pg} {T : Tab} {k : Nat} {prog : Program} {w : World} {K : PySem.W.Frag} {mg : Str → Option Value} {base : Heap}
structure Gok (P : Pg) (T : Tab) (K : PySem.W.Frag) (mg : Str → Option Value) : Prop where
  blt : ∀ x ∈ T.bl, mg x = none
  glo : ∀ x ∈ T.gl, ∃ v u d, P.glo x = some d ∧ mg x = some u ∧ RelV v u ∧ ∀ (w : World) al n U H, Rep ⟨K, w⟩ al n U H d v
  nsf : ∀ x f, PySem.W.nsIn K mainGlobals x = some (some (.ref f)) → mg x = some (.ref f)
  tfn : ∀ x d, P.fn x = some d → x ∈ T.fn
/-- every def of the table is kept, calls nested at most k deep -/
def AllOk (P : Pg) (T : Tab) (prog : Program) (w : World) (K : PySem.W.Frag) (mg : Str → Option Value) (base : Heap) (k : Nat) : Prop :=
  ∀ x ∈ T.fn, ∃ f fd ps, FnOk prog w K mg base CX0 k f fd ps (spOf ⟨K, w⟩ P k x) ∧ mg x = some (.ref f) ∧ PySem.W.keepIn K (.ref f) = true ∧ Binds K fd ps []
theorem reps_len {K : KW} {al : Nat → Addr} {n : Nat} {U : List Addr} {H : Hp} {ds : List D} {vs : List V} (h : Reps K al n U H ds vs) : vs.length = ds.length := h.length.symm
theorem sp_len {x : Str} {d : Df} (hx : P.fn x = some d.fd) (hd : d.fd.ps = d.ps.length) : ∀ k vs H Q E, spOf ⟨K, w⟩ P k x vs H Q E → vs.length = d.ps.length := by
  intro k vs H Q E ⟨al, U, S, ds, r, S', sr, rs, e, q⟩
  cases k with
  | zero => cases e
  | succ k =>
    simp only [callF, hx, runF] at e
    split at e
    · rename_i hl
      rw [reps_len rs, hl, hd]
    · cases e
theorem def_ok {x : Str} {f : Addr} {fdd : FuncData} {d : Df} (G : Gok P T K mg) (A : AllOk P T prog w K mg base k) (F : L2.Fun K d.nam d.qual d.st f fdd) (hx : P.fn x = some d.fd) (hc : dfC T d = true) :
    FnOk prog w K mg base CX0 (k + 1) f fdd d.ps (spOf ⟨K, w⟩ P (k + 1) x) := by
  unfold dfC at hc
  simp only [Bool.and_eq_true, decide_eq_true_eq] at hc
  obtain ⟨⟨⟨h1, h2⟩, h3⟩, h4⟩ := hc
  have S := C8.fnScope_by h1
  refine F.ok S (fun vs H Q E h => sp_len (K := K) (w := w) hx h3 (k + 1) vs H Q E h) fun cdv A' outer s H vs Q E hr hsp => ?_
  obtain ⟨al, U, St0, ds, r, S', sr, rs, e, q⟩ := hsp
  simp only [callF, hx, runF] at e
  split at e
  · rename_i hl
    obtain ⟨⟨fl, rho', S2⟩, e1, e⟩ := R.bind_ok e
    have hS : Sok P T k d.N (defScope d.st) (cxOf CX0 prog w K mg base d.N d.qual (defScope d.st) f cdv A' outer s H E).nox := by
      refine ⟨⟨rfl, S.nd, fun y hy => ?_, fun y hy => ?_, fun y hy => hy, fun y hy => ?_, rfl, hr, G.blt, A, fun x hx => let ⟨v, u, d, h1, h2, h3, h4⟩ := G.glo x hx; ⟨v, u, d, h1, h2, h3, h4 w⟩, G.nsf, G.tfn⟩, rfl, fun _ => rfl, S.kind, PassesOwn.never⟩
      · unfold visC at hy
        split at hy <;> first | cases hy | skip
        · rename_i z; exact .inl z
        · rename_i z; exact .inr (.inl z)
        · rename_i z; exact .inr (.inr z)
      · unfold locC at hy
        split at hy <;> first | cases hy | skip
        · rename_i z; exact ⟨.inl z, .inl rfl⟩
        · rename_i z; exact ⟨.inr z, .inl rfl⟩
      · unfold gloC at hy
        split at hy <;> first | cases hy | skip
        rename_i z; exact z
    have ent : ER ⟨K, w⟩ al St0.length U H (entry d.fd ds) (L2.start d.N vs) := by
      unfold entry L2.start
      have hlen := rs.length
      refine ⟨by simp only [List.length_append, List.length_map, List.length_replicate]; omega, fun i d' he => ?_⟩
      by_cases hi : i < ds.length
      · rw [List.getElem?_append_left (by simpa using hi), List.getElem?_map] at he
        cases hdi : ds[i]? with
        | none => rw [hdi] at he; cases he
        | some d2 =>
          rw [hdi] at he
          cases he
          obtain ⟨v, hv, rv⟩ := rs.get hdi
          refine ⟨v, ?_, rv⟩
          rw [List.getElem?_append_left (by simp; omega), List.getElem?_map, hv]
          rfl
      · rw [List.getElem?_append_right (by simpa using Nat.le_of_not_lt hi)] at he
        rw [List.getElem?_replicate] at he
        split at he <;> cases he
    refine ⟨_, soundSs hS d.fd.body (defBody d.st) h2, al, U, St0, entry d.fd ds, fl, rho', S2, sr, ent, e1, ?_⟩
    cases fl with
    | nx =>
      cases e
      exact fun σ' H' al' n' sr' er' => q .non H' al' n' sr' (by simp only [Rep])
    | rt v =>
      cases e
      exact fun v' H' al' n' sr' r' => q v' H' al' n' sr' r'
    | bk => cases e
    | ct => cases e
  · cases e
end
end Z

set_option Elab.async false
set_option linter.all false
set_option maxRecDepth 100000
set_option maxHeartbeats 4000000
/-! End: a law by its code. -/
namespace Z
open PySem L2 PySem.Spec PyProof.Rows

theorem lookup_in {A : Type} {x : Str} {d : A} : ∀ {l : List (Str × A)}, l.lookup x = some d → x ∈ l.map (·.1)
  | [], h => by simp at h
  | (y, b) :: l, h => by
    rw [List.lookup_cons] at h
    rw [List.map_cons]
    cases e : x == y with
    | true => rw [eq_of_beq e]; exact List.mem_cons_self
    | false => rw [e] at h; exact List.mem_cons_of_mem _ (lookup_in h)
/-- one def as the top leaves it -/
structure DefAt (P : Pg) (T : Tab) (K : PySem.W.Frag) (mg : Str → Option Value) (x : Str) (d : Df) (f : Addr) (fd : FuncData) : Prop where
  fn : L2.Fun K d.nam d.qual d.st f fd
  mgf : mg x = some (.ref f)
  bnd : ∀ us : List Value, us.length = d.ps.length → bindArgs fd ⟨us, []⟩ = pure (d.ps.zip us)
  cod : P.fn x = some d.fd
  chk : dfC T d = true
structure Facts (P : Pg) (T : Tab) (K : PySem.W.Frag) (mg : Str → Option Value) (nm x : Str) : Prop where
  ok : Gok P T K mg
  fns : ∀ x ∈ T.fn, ∃ d f fd, DefAt P T K mg x d f fd
  law : ∃ d f fd, DefAt P T K mg nm d f fd ∧ d.ps = [x]
theorem all_ok {P : Pg} {T : Tab} {prog : Program} {w : World} {K : PySem.W.Frag} {mg : Str → Option Value} {base : Heap} {nm x0 : Str} (F : Facts P T K mg nm x0) : ∀ k, AllOk P T prog w K mg base k
  | 0 => fun x hx => by
    obtain ⟨d, f, fd, D⟩ := F.fns x hx
    refine ⟨f, fd, d.ps, ⟨fun vs H Q E h => ?_, fun A outer s H args us vs Q E hr he hb hv hs => ?_⟩, D.mgf, D.fn.kp, .all D.bnd⟩
    · obtain ⟨al, U, S, ds, r, S', sr, rs, e, q⟩ := h
      cases e
    · obtain ⟨al, U, S, ds, r, S', sr, rs, e, q⟩ := hs
      cases e
  | k + 1 => fun x hx => by
    obtain ⟨d, f, fd, D⟩ := F.fns x hx
    exact ⟨f, fd, d.ps, def_ok F.ok (all_ok F k) D.fn D.cod D.chk, D.mgf, D.fn.kp, .all D.bnd⟩
theorem law_walk {l : PySem.W.OpenLaw} {q : Program} {loose : List Str} {XP : (Str → Option Value) → Heap → Prop} {YP : World → Heap → Prop} {d : DefRec} {K : Params → PySem.W.Frag} (P : Pg) (T : Tab) (k : Nat) {x : Str} (hn : l.most = some 63) (hdf : d.params.defaults = [])
    (hk : k ≤ 60) (hd : d.name ∈ T.fn)
    (hY : ∀ (w : World) (h : Heap), YP w h → (K w.params).In h)
    (facts : ∀ (w : World) (mg : Str → Option Value) (h : Heap), (K w.params).In h → h.Ns mainGlobals mg → Facts P T (K w.params) mg d.name x)
    (law : ∀ ns : List Int, ns.length ≤ 63 → (∀ z ∈ ns, Builtin.Int.intBits z ≤ 1048576) → ∃ S', callF P k d.name [.lst (ns.map .int)] [] = .ok (.bl true, S')) :
    PySem.W.WalkO q loose XP YP l.row.toRowW d [] (fun f vs => PySem.call f vs) := by
  refine walk_ofB (n := 63) (k := k) (x := x) (CX := fun _ => CX0) (sp := fun w => spOf ⟨K w.params, w⟩ P k d.name) hn (by decide) hdf ⟨rfl, ?_, ?_⟩ hY (fun w mg fa h KX G hmg => ?_) (fun w H a ns hl hb hO hS => ?_) fun _ _ _ _ _ z => z
  · show callerA.depth + 3 * k + 5 < recursionLimit
    have h1 : callerA.depth + 3 * 60 + 5 < recursionLimit := by decide
    omega
  · show callerA.units + 16 * k + 200 < cLine
    have h1 : callerA.units + 16 * 60 + 200 < cLine := by decide
    omega
  · have F := facts w mg h KX G
    obtain ⟨dd, f, fd, D, hp⟩ := F.law
    have e := hmg.symm.trans D.mgf
    cases e
    refine ⟨fd, fun s u => .of_eq ?_, fun base _ _ => ?_⟩
    · have := D.bnd [u] (by rw [hp]; rfl)
      rw [hp] at this
      exact this
    · cases k with
      | zero =>
        obtain ⟨S', e⟩ := law [] (by decide) (fun _ h => nomatch h)
        cases e
      | succ k =>
        have := def_ok (prog := l.prog) (w := w) (base := base) F.ok (all_ok F k) D.fn D.cod D.chk
        rw [hp] at this
        exact this
  · obtain ⟨S', e⟩ := law ns hl hb
    have hz : sizeLine = 16777216 := by decide
    have liv : ∀ a ∈ ([] : List Addr), H a ≠ none := fun _ h => nomatch h
    refine ⟨fun _ => 0, [], [], [.lst (ns.map .int)], .bl true, S', ⟨fun i j hi => absurd hi (Nat.not_lt_zero _), fun i hi => absurd hi (Nat.not_lt_zero _), liv, fun i o e => by simp at e⟩, ?_, e, fun v H' al' n' sr' r' => ?_⟩
    · simp only [Reps, Rep]
      refine ⟨.ref a, [], rfl, ⟨a, ns.map V.int, rfl, ?_, by rw [List.length_map]; omega, ints_rep ns⟩, rfl⟩
      rcases hS with hS | hS
      · exact .inl ⟨hS, fun i hi => absurd hi (Nat.not_lt_zero _), fun h => nomatch h⟩
      · exact .inr hS
    · simpa only [Rep] using r'
end Z

set_option Elab.async false
set_option linter.all false
set_option maxRecDepth 100000
set_option maxHeartbeats 4000000
/-! Lib: to reckon what codes make. -/
namespace Z
open PySem L2 PySem.Spec PyProof.Rows

/-- it answers, and the answer is so -/
def Ok {A : Type} (r : R A) (Q : A → Prop) : Prop := ∃ a, r = .ok a ∧ Q a
@[simp] theorem Ok.ok_iff {A : Type} {a : A} {Q : A → Prop} : Ok (.ok a) Q ↔ Q a := ⟨fun ⟨_, e, h⟩ => by cases e; exact h, fun h => ⟨a, rfl, h⟩⟩
theorem Ok.bind {A B : Type} {r : R A} {f : A → R B} {P : A → Prop} {Q : B → Prop} (h : Ok r P) (k : ∀ a, P a → Ok (f a) Q) : Ok (r.bind f) Q := by
  obtain ⟨a, rfl, p⟩ := h
  exact k a p
theorem Ok.mono {A : Type} {r : R A} {P Q : A → Prop} (h : Ok r P) (k : ∀ a, P a → Q a) : Ok r Q := by
  obtain ⟨a, rfl, p⟩ := h
  exact ⟨a, rfl, k a p⟩
theorem callF_s {P : Pg} {k : Nat} {f : Str} {d : Fd} {xs : List D} {S : Store} (h : P.fn f = some d) : callF P (k + 1) f xs S = runF ⟨callF P k, P.glo, P.fuel⟩ d xs S := by
  simp only [callF, h]
/-- what is still to be shown behind a statement -/
def Nx (G : Ctx) (as : List Z.S) (Q : Fl × Env × Store → Prop) (p : Fl × Env × Store) : Prop := match p.1 with
  | .nx => Ok (evSs G as p.2.1 p.2.2) Q
  | _ => Q p
theorem nx {G : Ctx} {as : List Z.S} {Q : Fl × Env × Store → Prop} {ρ : Env} {S : Store} (h : Ok (evSs G as ρ S) Q) : Nx G as Q (.nx, ρ, S) := h
theorem nrt {G : Ctx} {as : List Z.S} {Q : Fl × Env × Store → Prop} {ρ : Env} {S : Store} {d : D} (h : Q (.rt d, ρ, S)) : Nx G as Q (.rt d, ρ, S) := h
theorem ss_nil {G : Ctx} {Q : Fl × Env × Store → Prop} {ρ : Env} {S : Store} (h : Q (.nx, ρ, S)) : Ok (evSs G [] ρ S) Q := by
  rw [evSs, Ok.ok_iff]
  exact h
theorem ss_cons {G : Ctx} {a : Z.S} {as : List Z.S} {Q : Fl × Env × Store → Prop} {ρ : Env} {S : Store} (h : Ok (evS G a ρ S) (Nx G as Q)) : Ok (evSs G (a :: as) ρ S) Q := by
  rw [evSs]
  refine Ok.bind h ?_
  rintro ⟨fl, ρ, S⟩ q
  cases fl with
  | nx => exact q
  | rt d => rw [Ok.ok_iff]; exact q
  | bk => rw [Ok.ok_iff]; exact q
  | ct => rw [Ok.ok_iff]; exact q
def Rt (Q : D × Store → Prop) (p : Fl × Env × Store) : Prop := match p.1 with
  | .rt v => Q (v, p.2.2)
  | .nx => Q (.non, p.2.2)
  | _ => False
theorem rt {Q : D × Store → Prop} {ρ : Env} {S : Store} {d : D} (h : Q (d, S)) : Rt Q (.rt d, ρ, S) := h
theorem okE {G : Ctx} {e : E} {ρ : Env} {S : Store} {Q : D × Store → Prop} (h : Ok (evE G e ρ S) Q) : Ok (evE G e ρ S) Q := h
theorem okS {G : Ctx} {e : Z.S} {ρ : Env} {S : Store} {Q : Fl × Env × Store → Prop} (h : Ok (evS G e ρ S) Q) : Ok (evS G e ρ S) Q := h
theorem okEs {G : Ctx} {e : List E} {ρ : Env} {S : Store} {Q : List D × Store → Prop} (h : Ok (evEs G e ρ S) Q) : Ok (evEs G e ρ S) Q := h
theorem eq_ok {A : Type} {r : R A} {v : A} (h : Ok r fun p => p = v) : r = .ok v := by
  obtain ⟨_, e, rfl⟩ := h
  exact e
theorem call_ok {P : Pg} {k : Nat} {f : Str} {d : Fd} {xs : List D} {S : Store} {Q : D × Store → Prop} {ρ : Env} (h : P.fn f = some d) (hl : xs.length = d.ps) (hr : entry d xs = ρ)
    (q : Ok (evSs ⟨callF P k, P.glo, P.fuel⟩ d.body ρ S) (Rt Q)) : Ok (callF P (k + 1) f xs S) Q := by
  rw [callF_s h, runF, if_pos hl, hr]
  refine Ok.bind q ?_
  rintro ⟨fl, ρ, S⟩ q
  cases fl with
  | nx => rw [Ok.ok_iff]; exact q
  | rt d => rw [Ok.ok_iff]; exact q
  | bk => exact q.elim
  | ct => exact q.elim
def If (G : Ctx) (a b : List Z.S) (ρ : Env) (Q : Fl × Env × Store → Prop) (p : D × Store) : Prop := ∃ k, p.1 = .bl k ∧ (k = true → Ok (evSs G a ρ p.2) Q) ∧ (k = false → Ok (evSs G b ρ p.2) Q)
theorem iff_ {G : Ctx} {a b : List Z.S} {Q : Fl × Env × Store → Prop} {ρ : Env} {S : Store} {k : Bool} (h1 : k = true → Ok (evSs G a ρ S) Q) (h2 : k = false → Ok (evSs G b ρ S) Q) : If G a b ρ Q (.bl k, S) := ⟨k, rfl, h1, h2⟩
theorem i_t {G : Ctx} {a b : List Z.S} {Q : Fl × Env × Store → Prop} {ρ : Env} {S : Store} (h : Ok (evSs G a ρ S) Q) : If G a b ρ Q (.bl true, S) := iff_ (fun _ => h) (fun e => nomatch e)
theorem i_f {G : Ctx} {a b : List Z.S} {Q : Fl × Env × Store → Prop} {ρ : Env} {S : Store} (h : Ok (evSs G b ρ S) Q) : If G a b ρ Q (.bl false, S) := iff_ (fun e => nomatch e) (fun _ => h)
theorem ite_ok {G : Ctx} {c : E} {a b : List Z.S} {Q : Fl × Env × Store → Prop} {ρ : Env} {S : Store} (h : Ok (evE G c ρ S) (If G a b ρ Q)) : Ok (evS G (.ite c a b) ρ S) Q := by
  rw [evS]
  refine Ok.bind h ?_
  rintro ⟨_, S⟩ ⟨k, rfl, h1, h2⟩
  cases k with
  | true => exact h1 rfl
  | false => exact h2 rfl
theorem compL_nil {f : D → Store → R (List D × Store)} {S : Store} : compL f [] S = .ok ([], S) := rfl
/-- a comprehension that leaves the store -/
theorem compL_flat {A : Type} {i : A → D} {g : A → List D} {f : D → Store → R (List D × Store)} {S : Store} : ∀ {xs : List A}, (∀ x ∈ xs, f (i x) S = .ok (g x, S)) → compL f (xs.map i) S = .ok (xs.flatMap g, S)
  | [], _ => rfl
  | x :: xs, h => by
    rw [List.map_cons, compL, h x (by simp), R.ok_bind, compL_flat fun y hy => h y (by simp [hy]), R.ok_bind, List.flatMap_cons]
theorem compL_map {A : Type} {i : A → D} {g : A → D} {f : D → Store → R (List D × Store)} {S : Store} {xs : List A} (h : ∀ x ∈ xs, f (i x) S = .ok ([g x], S)) : compL f (xs.map i) S = .ok (xs.map g, S) := by
  rw [compL_flat (g := fun x => [g x]) h]
  congr 2
  clear h
  induction xs with
  | nil => rfl
  | cons x xs ih => rw [List.flatMap_cons, ih]; rfl
theorem compL_filter {A : Type} {i : A → D} {g : A → D} {p : A → Bool} {f : D → Store → R (List D × Store)} {S : Store} {xs : List A} (h : ∀ x ∈ xs, f (i x) S = .ok (if p x then [g x] else [], S)) : compL f (xs.map i) S = .ok ((xs.filter p).map g, S) := by
  rw [compL_flat (g := fun x => if p x then [g x] else []) h]
  congr 2
  clear h
  induction xs with
  | nil => rfl
  | cons x xs ih =>
    rw [List.flatMap_cons, ih]
    cases hp : p x <;> simp [hp]
/-- a loop -/
theorem forL_aux {f : D → Env → Store → R (Fl × Env × Store)} (I : List D → Env → Store → Prop) (all : List D) (st : ∀ pre d post ρ S, all = pre ++ d :: post → I pre ρ S → Ok (f d ρ S) fun p => (p.1 = .nx ∨ p.1 = .ct) ∧ I (pre ++ [d]) p.2.1 p.2.2) :
    ∀ (ds pre : List D) {ρ : Env} {S : Store}, all = pre ++ ds → I pre ρ S → Ok (forL f ds ρ S) fun p => p.1 = .nx ∧ I all p.2.1 p.2.2
  | [], pre, ρ, S, e, h => by
    rw [forL, Ok.ok_iff]
    rw [List.append_nil] at e
    subst e
    exact ⟨rfl, h⟩
  | d :: ds, pre, ρ, S, e, h => by
    rw [forL]
    refine Ok.bind (st pre d ds ρ S e h) fun p ⟨e', q⟩ => ?_
    have := forL_aux (f := f) I all st ds (pre ++ [d]) (ρ := p.2.1) (S := p.2.2) (by rw [e]; simp) q
    rcases e' with e' | e' <;> rw [e'] <;> exact this
theorem forL_inv {f : D → Env → Store → R (Fl × Env × Store)} (I : List D → Env → Store → Prop) {all : List D} {ρ : Env} {S : Store} (h : I [] ρ S) (st : ∀ pre d post ρ S, all = pre ++ d :: post → I pre ρ S → Ok (f d ρ S) fun p => (p.1 = .nx ∨ p.1 = .ct) ∧ I (pre ++ [d]) p.2.1 p.2.2) :
    Ok (forL f all ρ S) fun p => p.1 = .nx ∧ I all p.2.1 p.2.2 := forL_aux I all st all [] rfl h
theorem compL_aux {f : D → Store → R (List D × Store)} (I : List D → List D → Store → Prop) (all : List D) (st : ∀ pre d post out S, all = pre ++ d :: post → I pre out S → Ok (f d S) fun p => I (pre ++ [d]) (out ++ p.1) p.2) :
    ∀ (ds pre out : List D) {S : Store}, all = pre ++ ds → I pre out S → Ok (compL f ds S) fun p => I all (out ++ p.1) p.2
  | [], pre, out, S, e, h => by
    rw [compL, Ok.ok_iff]
    rw [List.append_nil] at e
    subst e
    simpa using h
  | d :: ds, pre, out, S, e, h => by
    rw [compL]
    refine Ok.bind (st pre d ds out S e h) fun p q => ?_
    refine Ok.bind (compL_aux (f := f) I all st ds (pre ++ [d]) (out ++ p.1) (by rw [e]; simp) q) fun r q' => ?_
    rw [Ok.ok_iff]
    simpa using q'
theorem compL_inv {f : D → Store → R (List D × Store)} (I : List D → List D → Store → Prop) {all : List D} {S : Store} (h : I [] [] S) (st : ∀ pre d post out S, all = pre ++ d :: post → I pre out S → Ok (f d S) fun p => I (pre ++ [d]) (out ++ p.1) p.2) :
    Ok (compL f all S) fun p => I all p.1 p.2 := by
  have := compL_aux I all st all [] [] rfl h
  simpa using this

/-- the n-th object is a pack: a list of one number -/
def Pk (n : Nat) (S : Store) : Prop := ∃ N : Int, S[n]? = some (.lst [.int N])
/-- all but the n-th is as ahead, more may have come -/
structure Fr1 (n : Nat) (S S' : Store) : Prop where
  pk : Pk n S'
  len : S.length ≤ S'.length
  old : ∀ m, m ≠ n → m < S.length → S'[m]? = S[m]?
theorem Pk.lt {n : Nat} {S : Store} (h : Pk n S) : n < S.length := by
  obtain ⟨N, h⟩ := h
  exact (List.getElem?_eq_some_iff.mp h).1
theorem Fr1.refl {n : Nat} {S : Store} (h : Pk n S) : Fr1 n S S := ⟨h, Nat.le_refl _, fun _ _ _ => rfl⟩
theorem Fr1.trans {n : Nat} {S S' S'' : Store} (a : Fr1 n S S') (b : Fr1 n S' S'') : Fr1 n S S'' := ⟨b.pk, Nat.le_trans a.len b.len, fun m h1 h2 => (b.old m h1 (Nat.lt_of_lt_of_le h2 a.len)).trans (a.old m h1 h2)⟩
theorem Fr1.set {n : Nat} {S : Store} {N : Int} (h : Pk n S) : Fr1 n S (S.set n (.lst [.int N])) := by
  refine ⟨⟨N, ?_⟩, by simp, fun m h1 h2 => ?_⟩
  · rw [List.getElem?_set_self h.lt]
  · rw [List.getElem?_set_ne (Ne.symm h1)]
theorem Fr1.push {n : Nat} {S : Store} {o : O} (h : Pk n S) : Fr1 n S (S ++ [o]) := by
  refine ⟨?_, by simp, fun m h1 h2 => ?_⟩
  · obtain ⟨N, e⟩ := h
    exact ⟨N, by rw [List.getElem?_append_left (List.getElem?_eq_some_iff.mp e).1]; exact e⟩
  · rw [List.getElem?_append_left h2]
/-- a change of what came later -/
theorem Fr1.late {n m : Nat} {S S' : Store} {o : O} (h : Fr1 n S S') (hm : S.length ≤ m) (hn : n < S.length) : Fr1 n S (S'.set m o) := by
  refine ⟨?_, by simpa using h.len, fun j h1 h2 => ?_⟩
  · obtain ⟨N, e⟩ := h.pk
    exact ⟨N, by rw [List.getElem?_set_ne (by omega)]; exact e⟩
  · rw [List.getElem?_set_ne (by omega)]
    exact h.old j h1 h2

theorem rangeD_map : ∀ (n : Nat) (lo : Int), rangeD lo n = (List.range n).map fun (j : Nat) => D.int (lo + (j : Int))
  | 0, _ => rfl
  | n + 1, lo => by
    rw [rangeD, rangeD_map n, List.range_succ_eq_map, List.map_cons, List.map_map]
    congr 1
    · simp
    · apply List.map_congr_left
      intro j _
      show D.int _ = D.int _
      congr 1
      simp
      omega
theorem range0 (n : Nat) : rangeD 0 n = (List.range n).map fun (j : Nat) => D.int (j : Int) := by
  rw [rangeD_map]
  simp


section
variable {G : Ctx} {ρ : Env} {S : Store} {A B : Type}
theorem w_okb {a : A} {f : A → R B} : R.bind (.ok a) f = f a := id rfl
theorem w_bb {r : R A} {B' : Type} {f : A → R B} {g : B → R B'} : R.bind (R.bind r f) g = R.bind r fun a => R.bind (f a) g := R.bind_assoc r f g
theorem w_var {i : Nat} : evE G (.var i) ρ S = (match ρ[i]? with
    | some (some d) => .ok (d, S)
    | _ => .bad) := id rfl
theorem w_con {d : D} : evE G (.con d) ρ S = .ok (d, S) := id rfl
theorem w_glo {x : Str} : evE G (.glo x) ρ S = (match G.glo x with
    | some d => .ok (d, S)
    | none => .bad) := id rfl
theorem w_tup {es : List E} : evE G (.tup es) ρ S = (evEs G es ρ S).bind fun p => .ok (.tup p.1, p.2) := id rfl
theorem w_lst {m : Bool} {es : List E} : evE G (.lst m es) ρ S = (evEs G es ρ S).bind fun p => litD m p.1 p.2 := id rfl
theorem w_dct : evE G (.dct [] []) ρ S = .ok (.ref S.length, S ++ [.dct [] []]) := id rfl
theorem w_bin {o : Op} {a b : E} : evE G (.bin o a b) ρ S = (evE G a ρ S).bind fun p => (evE G b ρ p.2).bind fun q => binD o p.1 q.1 q.2 := id rfl
theorem w_not {a : E} : evE G (.not a) ρ S = (evE G a ρ S).bind fun p => match p.1 with
    | .bl b => .ok (.bl (!b), p.2)
    | _ => .bad := id rfl
theorem w_and {es : List E} : evE G (.and es) ρ S = evAnd G es ρ S := id rfl
theorem w_or {es : List E} : evE G (.or es) ρ S = evOr G es ρ S := id rfl
theorem w_cmp {o : Cm} {a b : E} : evE G (.cmp o a b) ρ S = (evE G a ρ S).bind fun p => (evE G b ρ p.2).bind fun q => cmpD o p.1 q.1 q.2 := id rfl
theorem w_chain {o o' : Cm} {a b c : E} : evE G (.chain o o' a b c) ρ S = (evE G a ρ S).bind fun p => (evE G b ρ p.2).bind fun q => (cmpD o p.1 q.1 q.2).bind fun r => match r.1 with
    | .bl true => (evE G c ρ r.2).bind fun s => cmpD o' q.1 s.1 s.2
    | .bl false => .ok (.bl false, r.2)
    | _ => .bad := id rfl
theorem w_ix {a i : E} : evE G (.ix a i) ρ S = (evE G a ρ S).bind fun p => (evE G i ρ p.2).bind fun q => ixD p.1 q.1 q.2 := id rfl
theorem w_call {f : Str} {es : List E} : evE G (.call f es) ρ S = (evEs G es ρ S).bind fun p => G.call f p.1 p.2 := id rfl
theorem w_blt {m : Bool} {b : Bt} {es : List E} : evE G (.blt m b es) ρ S = (evEs G es ρ S).bind fun p => bltD m b p.1 p.2 := id rfl
theorem w_mth {t : Mt} {o : E} {es : List E} : evE G (.mth t o es) ρ S = (evE G o ρ S).bind fun p => if recvOk t p.1 p.2 then (evEs G es ρ p.2).bind fun q => mthD t p.1 q.1 q.2 else .bad := id rfl
theorem w_comp {m : Bool} {own g : List Nat} {one : Bool} {k : IK} {its : List E} {c e : E} : evE G (.comp m own g one k its c e) ρ S = (evEs G its ρ S).bind fun p => (itrD k p.1 p.2).bind fun it =>
      (compI (fun d S => (bindG g one d (wipeE ρ own)).bind fun ρ' => (evE G c ρ' S).bind fun q => match q.1 with
        | .bl true => (evE G e ρ' q.2).bind fun r => .ok ([r.1], r.2)
        | .bl false => .ok ([], q.2)
        | _ => .bad) it p.2).bind fun q => litD m q.1 q.2 := id rfl
theorem w_sl {m l h : Bool} {a lo hi : E} : evE G (.sl m a l lo h hi) ρ S = (evE G a ρ S).bind fun p => (if l then (evE G lo ρ p.2).bind partD else .ok (none, p.2)).bind fun q =>
      (if h then (evE G hi ρ q.2).bind partD else .ok (none, q.2)).bind fun r => slD m p.1 q.1 r.1 r.2 := id rfl
theorem w_rev {a : E} : evE G (.rev a) ρ S = (evE G a ρ S).bind fun p => revD p.1 p.2 := id rfl
theorem w_neg {a : E} : evE G (.neg a) ρ S = (evE G a ρ S).bind fun p => match p.1 with
    | .int i => .ok (.int (-i), p.2)
    | _ => .bad := id rfl
theorem w_nil : evEs G [] ρ S = .ok ([], S) := id rfl
theorem w_cons {e : E} {es : List E} : evEs G (e :: es) ρ S = (evE G e ρ S).bind fun p => (evEs G es ρ p.2).bind fun q => .ok (p.1 :: q.1, q.2) := id rfl
theorem w_and1 {e : E} : evAnd G [e] ρ S = evE G e ρ S := id rfl
theorem w_and2 {e e' : E} {es : List E} : evAnd G (e :: e' :: es) ρ S = (evE G e ρ S).bind fun p => match p.1 with
    | .bl true => evAnd G (e' :: es) ρ p.2
    | .bl false => .ok (.bl false, p.2)
    | _ => .bad := id rfl
theorem w_or1 {e : E} : evOr G [e] ρ S = evE G e ρ S := id rfl
theorem w_or2 {e e' : E} {es : List E} : evOr G (e :: e' :: es) ρ S = (evE G e ρ S).bind fun p => match p.1 with
    | .bl true => .ok (.bl true, p.2)
    | .bl false => evOr G (e' :: es) ρ p.2
    | _ => .bad := id rfl
theorem w_asg {g : Tg} {e : E} : evS G (.asg g e) ρ S = (evE G e ρ S).bind fun p => (asg G g p.1 ρ p.2).bind fun q => .ok (.nx, q) := id rfl
theorem w_exp {e : E} : evS G (.exp e) ρ S = (evE G e ρ S).bind fun p => .ok (.nx, ρ, p.2) := id rfl
theorem w_ret {e : E} : evS G (.ret e) ρ S = (evE G e ρ S).bind fun p => .ok (.rt p.1, ρ, p.2) := id rfl
theorem w_anm {i : Nat} {d : D} : asg G (.nm i) d ρ S = .ok (ρ.set i (some d), S) := id rfl
theorem w_asub {o i : E} {d : D} : asg G (.sub o i) d ρ S = (evE G o ρ S).bind fun p => (evE G i ρ p.2).bind fun q => (subD p.1 q.1 d q.2).bind fun S' => .ok (ρ, S') := id rfl
theorem w_orv {a b : E} : evE G (.orv a b) ρ S = (evE G a ρ S).bind fun p => match p.1 with
    | .tup (d :: ds) => .ok (.tup (d :: ds), p.2)
    | .tup [] => (evE G b ρ p.2).bind tupOnly
    | .non => (evE G b ρ p.2).bind tupOnly
    | _ => .bad := id rfl
theorem w_dcn0 : evE G (.dcn [] []) ρ S = .ok (.ref S.length, S ++ [.dcn [] []]) := id rfl
theorem w_dcn1 {a b : E} : evE G (.dcn [a] [b]) ρ S = (evE G a ρ S).bind fun p => (evE G b ρ p.2).bind fun q => match keyN p.1 with
      | some _ => .ok (.ref q.2.length, q.2 ++ [.dcn [p.1] [q.1]])
      | none => .bad := id rfl
theorem w_whl {c : E} {b : List Z.S} : evS G (.whl c b) ρ S = whlN (evE G c) (evSs G b) G.fuel ρ S := id rfl
theorem w_callv {i : Nat} {es : List E} : evE G (.callv i es) ρ S = (match ρ[i]? with
    | some (some (.fn f)) => (evEs G es ρ S).bind fun p => G.call f p.1 p.2
    | _ => .bad) := id rfl
theorem w_wipe1 {i : Nat} : wipeE ρ [i] = ρ.set i none := id rfl
theorem w_wipe2 {i j : Nat} : wipeE ρ [i, j] = (ρ.set j none).set i none := id rfl
end
/-! ### rules -/
def R.of (o : Option D) (S : Store) : R (D × Store) := match o with
  | some d => .ok (d, S)
  | none => .bad
theorem of_some (d : D) (S : Store) : R.of (some d) S = .ok (d, S) := id rfl
section
variable {S : Store} {m : Bool} {i j : Int} {x y : List Char} {ds es : List D} {a b : D} {n : Nat} {G : Ctx} {ρ : Env} {d : D}
theorem litD_f : litD false ds S = .ok (.lst ds, S) := id rfl
theorem litD_t : litD true ds S = .ok (.ref S.length, S ++ [.lst ds]) := id rfl
theorem bin_add : binD .add (.int i) (.int j) S = .ok (.int (i + j), S) := id rfl
theorem bin_adds : binD .add (.str x) (.str y) S = if x.length + y.length ≤ sizeLine then .ok (.str (x ++ y), S) else .bad := id rfl
theorem bin_addt : binD .add (.tup ds) (.tup es) S = if ds.length + es.length ≤ sizeLine then .ok (.tup (ds ++ es), S) else .bad := id rfl
theorem bin_addm : binD .addm (.lst ds) (.lst es) S = if ds.length + es.length ≤ sizeLine then .ok (.ref S.length, S ++ [.lst (ds ++ es)]) else .bad := id rfl
theorem bin_mult : binD .mul (.tup ds) (.int j) S = if ds ≠ [] ∧ 2 ≤ j ∧ j ≤ 1000 ∧ ds.length ≤ 1000 then .ok (.tup (List.replicate j.toNat ds).flatten, S) else .bad := id rfl
theorem bin_muls : binD .mul (.str x) (.int j) S = if 0 ≤ j ∧ j ≤ 1000 ∧ x.length ≤ 10000 then .ok (.str (List.replicate j.toNat x).flatten, S) else .bad := id rfl
theorem bin_addl : binD .add (.lst ds) (.lst es) S = if ds.length + es.length ≤ sizeLine then .ok (.lst (ds ++ es), S) else .bad := id rfl
theorem bin_addr {n : Nat} (h : S[n]? = some (.lst ds)) (hz : ds.length + es.length ≤ sizeLine) : binD .add (.ref n) (.lst es) S = .ok (.lst (ds ++ es), S) := by
  show catD false (.ref n) (.lst es) S = _
  simp only [catD, lsD, h]
  rw [if_pos hz]
  rfl
theorem bin_addmr {n : Nat} (h : S[n]? = some (.lst ds)) (hz : ds.length + es.length ≤ sizeLine) : binD .addm (.ref n) (.lst es) S = .ok (.ref S.length, S ++ [.lst (ds ++ es)]) := by
  show catD true (.ref n) (.lst es) S = _
  simp only [catD, lsD, h]
  rw [if_pos hz]
  rfl
theorem bin_sub : binD .sub (.int i) (.int j) S = .ok (.int (i - j), S) := id rfl
theorem bin_mul : binD .mul (.int i) (.int j) S = if i.natAbs.log2 + j.natAbs.log2 < 100000000 then .ok (.int (i * j), S) else .bad := id rfl
theorem bin_mod : binD .mod (.int i) (.int j) S = if j = 0 then .bad else .ok (.int (i.fmod j), S) := id rfl
theorem bin_pow : binD .pow (.int i) (.int j) S = if 0 ≤ j ∧ j ≤ 1000000 ∧ i.natAbs < 2 ^ 64 then .ok (.int (i ^ j.toNat), S) else .bad := id rfl
theorem bin_shl : binD .shl (.int i) (.int j) S = if 0 ≤ j ∧ j ≤ 1000000 ∧ i.natAbs < 2 ^ 64 then .ok (.int (i * 2 ^ j.toNat), S) else .bad := id rfl
theorem bin_shr : binD .shr (.int i) (.int j) S = if 0 ≤ j then .ok (.int (i / 2 ^ j.toNat), S) else .bad := id rfl
theorem bin_band : binD .band (.int i) (.int j) S = .ok (.int (Builtin.bitAnd i j), S) := id rfl
theorem cmp_eq : cmpD .eq a b S = if okD 60 (deref S a) ∧ okD 60 (deref S b) then .ok (.bl (eqD (deref S a) (deref S b)), S) else .bad := id rfl
theorem cmp_ne : cmpD .ne a b S = if okD 60 (deref S a) ∧ okD 60 (deref S b) then .ok (.bl (!eqD (deref S a) (deref S b)), S) else .bad := id rfl
theorem cmp_lti : cmpD .lt (.int i) (.int j) S = .ok (.bl (decide (i < j)), S) := id rfl
theorem cmp_lts : cmpD .lt (.str x) (.str y) S = .ok (.bl (ltS x y), S) := id rfl
theorem cmp_le : cmpD .le (.int i) (.int j) S = .ok (.bl (decide (i ≤ j)), S) := id rfl
theorem cmp_gt : cmpD .gt (.int i) (.int j) S = .ok (.bl (decide (j < i)), S) := id rfl
theorem cmp_ge : cmpD .ge (.int i) (.int j) S = .ok (.bl (decide (j ≤ i)), S) := id rfl
theorem cmp_none : cmpD .isNone a .non S = .ok (.bl (isNonD a), S) := id rfl
theorem cmp_nnone : cmpD .notNone a .non S = .ok (.bl (!isNonD a), S) := id rfl
theorem cmp_true {c k : Bool} : cmpD .isTrue (.bl c) (.bl k) S = .ok (.bl (c == k), S) := id rfl
theorem cmp_ntrue {c k : Bool} : cmpD .notTrue (.bl c) (.bl k) S = .ok (.bl (!(c == k)), S) := id rfl
def R.ofB (o : Option Bool) (S : Store) : R (D × Store) := match o with
  | some d => .ok (.bl d, S)
  | none => .bad
theorem ofB_some (d : Bool) (S : Store) : R.ofB (some d) S = .ok (.bl d, S) := id rfl
theorem cmp_in : cmpD .isIn a b S = R.ofB (memD S a b) S := by
  simp only [cmpD, R.ofB]
  all_goals (cases memD S a b <;> rfl)
theorem cmp_nin : cmpD .notIn a b S = R.ofB ((memD S a b).map fun k => !k) S := by
  simp only [cmpD, R.ofB]
  all_goals (cases memD S a b <;> rfl)
theorem nonD_non : isNonD .non = true := id rfl
theorem nonD_s : isNonD (.str x) = false := id rfl
theorem nonD_t : isNonD (.tup ds) = false := id rfl
theorem nonD_i : isNonD (.int i) = false := id rfl
theorem nonD_l : isNonD (.lst ds) = false := id rfl
theorem nonD_r : isNonD (.ref n) = false := id rfl
theorem nonD_b {k : Bool} : isNonD (.bl k) = false := id rfl
theorem deref_s : deref S (.str x) = .str x := id rfl
theorem deref_t : deref S (.tup ds) = .tup ds := id rfl
theorem deref_l : deref S (.lst ds) = .lst ds := id rfl
theorem deref_i : deref S (.int i) = .int i := id rfl
theorem deref_b {k : Bool} : deref S (.bl k) = .bl k := id rfl
theorem deref_n : deref S .non = .non := id rfl
theorem ok_s : okD 60 (.str x) = true := id rfl
theorem ok_i : okD 60 (.int i) = true := id rfl
theorem ok_b {k : Bool} : okD 60 (.bl k) = true := id rfl
theorem ok_n : okD 60 .non = true := id rfl
theorem mem_s {c : Char} : memD S (.str [c]) (.str y) = some (decide (c ∈ y)) := id rfl
theorem mem_t : memD S a (.tup ds) = if flatD a ∧ ds.all flatD then some (inD a ds) else if okD 60 a ∧ ds.all (okD 59) then some (inD a ds) else none := id rfl
theorem mem_l : memD S a (.lst ds) = if flatD a ∧ ds.all flatD then some (inD a ds) else if okD 60 a ∧ ds.all (okD 59) then some (inD a ds) else none := id rfl
theorem flat_s : flatD (.str x) = true := id rfl
theorem flat_i : flatD (.int i) = true := id rfl
theorem flat_b {k : Bool} : flatD (.bl k) = true := id rfl
theorem flat_n : flatD .non = true := id rfl
theorem ix_s : ixD (.str x) (.int j) S = R.of ((atI x j).map fun c => .str [c]) S := by
  simp only [ixD, R.of]
  all_goals (cases atI x j <;> rfl)
theorem ix_t : ixD (.tup ds) (.int j) S = R.of (atI ds j) S := by
  simp only [ixD, R.of]
  all_goals (cases atI ds j <;> rfl)
theorem ix_l : ixD (.lst ds) (.int j) S = R.of (atI ds j) S := by
  simp only [ixD, R.of]
  all_goals (cases atI ds j <;> rfl)
theorem ix_r (h : S[n]? = some (.lst ds)) : ixD (.ref n) (.int j) S = R.of (atI ds j) S := by
  simp only [ixD, R.of, h]
  all_goals (cases atI ds j <;> rfl)
theorem items_t : items S (.tup ds) = some ds := id rfl
theorem items_l : items S (.lst ds) = some ds := id rfl
theorem items_r (h : S[n]? = some (.lst ds)) : items S (.ref n) = some ds := by
  simp only [items, h]
theorem len_s : bltD m .len [.str x] S = .ok (.int x.length, S) := id rfl
theorem len_t : bltD m .len [.tup ds] S = .ok (.int ds.length, S) := id rfl
theorem len_t2 {a b : D} : bltD m .len [.tup [a, b]] S = .ok (.int 2, S) := id rfl
theorem len_t4 {a b c d : D} : bltD m .len [.tup [a, b, c, d]] S = .ok (.int 4, S) := id rfl
theorem len_l : bltD m .len [.lst ds] S = .ok (.int ds.length, S) := id rfl
theorem len_r (h : S[n]? = some (.lst ds)) : bltD m .len [.ref n] S = .ok (.int ds.length, S) := by
  simp only [bltD, items, h]
theorem tuple_s : bltD m .tuple [.str x] S = .ok (.tup (x.map fun c => .str [c]), S) := id rfl
theorem tuple_t : bltD m .tuple [.tup ds] S = .ok (.tup ds, S) := id rfl
theorem tuple_l : bltD m .tuple [.lst ds] S = .ok (.tup ds, S) := id rfl
theorem tuple_r (h : S[n]? = some (.lst ds)) : bltD m .tuple [.ref n] S = .ok (.tup ds, S) := by
  simp only [bltD, items, h]
theorem list_s : bltD m .list [.str x] S = litD m (x.map fun c => .str [c]) S := id rfl
theorem list_t : bltD m .list [.tup ds] S = litD m ds S := id rfl
theorem list_l : bltD m .list [.lst ds] S = litD m ds S := id rfl
theorem blt_divmod : bltD m .divmod [.int i, .int j] S = if 0 < j ∧ j.natAbs < 1073741824 then .ok (.tup [.int (i / j), .int (i % j)], S) else .bad := id rfl
theorem blt_max : bltD m .max2 [.int i, .int j] S = .ok (.int (if j > i then j else i), S) := id rfl
theorem blt_min : bltD m .min2 [.int i, .int j] S = .ok (.int (if j < i then j else i), S) := id rfl
theorem allStr_map : ∀ xs : List (List Char), allStr (xs.map .str) = some xs
  | [] => rfl
  | x :: xs => by rw [List.map_cons, allStr, allStr_map xs]; rfl
theorem allInt_map : ∀ xs : List Int, allInt (xs.map .int) = some xs
  | [] => rfl
  | x :: xs => by rw [List.map_cons, allInt, allInt_map xs]; rfl
theorem allBl_map : ∀ xs : List Bool, allBl (xs.map .bl) = some xs
  | [] => rfl
  | x :: xs => by rw [List.map_cons, allBl, allBl_map xs]; rfl
theorem blt_all {A : Type} {xs : List A} {p : A → Bool} : bltD m .all [.lst (xs.map fun x => .bl (p x))] S = .ok (.bl (xs.all p), S) := by
  have e : (xs.map fun x => D.bl (p x)) = (xs.map p).map .bl := by rw [List.map_map]; rfl
  simp only [bltD, items, e, allBl_map]
  congr 2
  rw [List.all_map]; rfl
theorem blt_any {A : Type} {xs : List A} {p : A → Bool} : bltD m .any [.lst (xs.map fun x => .bl (p x))] S = .ok (.bl (xs.any p), S) := by
  have e : (xs.map fun x => D.bl (p x)) = (xs.map p).map .bl := by rw [List.map_map]; rfl
  simp only [bltD, items, e, allBl_map]
  congr 2
  rw [List.any_map]; rfl
theorem blt_sorted {xs : List (List Char)} (h : xs.length < 64) : bltD m .sorted [.lst (xs.map .str)] S = litD m ((sortS xs).map .str) S := by
  simp only [bltD, items, allStr_map, h, if_true]
theorem ty_s {t : Ty} : bltD m (.isTy t) [.str x] S = .ok (.bl (subTy .str t), S) := id rfl
theorem ty_t {t : Ty} : bltD m (.isTy t) [.tup ds] S = .ok (.bl (subTy .tuple t), S) := id rfl
theorem ty_l {t : Ty} : bltD m (.isTy t) [.lst ds] S = .ok (.bl (subTy .list t), S) := id rfl
theorem ty_i {t : Ty} : bltD m (.isTy t) [.int i] S = .ok (.bl (subTy .int t), S) := id rfl
theorem ty_b {t : Ty} {k : Bool} : bltD m (.isTy t) [.bl k] S = .ok (.bl (subTy .bool t), S) := id rfl
theorem ty_n {t : Ty} : bltD m (.isTy t) [.non] S = .ok (.bl (subTy .non t), S) := id rfl
theorem rec_join : recvOk .join (.str x) S = true := id rfl
theorem rec_app (h : S[n]? = some (.lst ds)) : recvOk .append (.ref n) S = true := by
  simp only [recvOk, h]
theorem mth_app (h : S[n]? = some (.lst ds)) (l : ds.length < sizeLine) : mthD .append (.ref n) [d] S = .ok (.non, S.set n (.lst (ds ++ [d]))) := by
  simp only [mthD, appD, h, l, if_true]
theorem mth_join {xs : List (List Char)} (l : (xs.map List.length).sum + xs.length * x.length ≤ 16777216) : mthD .join (.str x) [.lst (xs.map .str)] S = .ok (.str (joinS x xs), S) := by
  simp only [mthD, joiD, items, allStr_map, l, if_true]
theorem rec_ext (h : S[n]? = some (.lst ds)) : recvOk .extend (.ref n) S = true := by
  simp only [recvOk, h]
theorem mth_ext {m : Nat} (h : S[n]? = some (.lst ds)) (h2 : S[m]? = some (.lst es)) (l : ds.length + es.length ≤ sizeLine) : mthD .extend (.ref n) [.ref m] S = .ok (.non, S.set n (.lst (ds ++ es))) := by
  simp only [mthD, extD, h, h2, l, if_true]
theorem blt_lrg {k : Nat} (h : k ≤ 16777216) : bltD m .listRg [.int (k : Int)] S = litD m ((List.range k).map fun (j : Nat) => .int (j : Int)) S := by
  have hz : sizeLine = 16777216 := by decide
  show (if 0 ≤ (k : Int) ∧ (k : Int) ≤ sizeLine then litD m (rangeD 0 (k : Int).toNat) S else .bad) = _
  rw [if_pos (by omega), Int.toNat_natCast, range0]
theorem rec_idx : recvOk .index (.str x) S = true := id rfl
theorem rec_idxT : recvOk .indexT (.tup ds) S = true := id rfl
theorem mth_idx {c : Char} (h : c ∈ x) : mthD .index (.str x) [.str [c]] S = .ok (.int (x.idxOf c), S) := by
  simp only [mthD, idxD, h, if_true]
theorem mth_idxT {xs : List (List Char)} (h : x ∈ xs) : mthD .indexT (.tup (xs.map .str)) [.str x] S = .ok (.int (xs.idxOf x), S) := by
  simp only [mthD, idxTD, allStr_map, h, if_true]
theorem blt_dict {p : List D × List D} (h : dictD ds [] [] = some p) : bltD m .dict [.tup ds] S = .ok (.ref S.length, S ++ [.dct p.1 p.2]) := by
  show dicD [.tup ds] S = _
  simp only [dicD, h]
theorem tupOnly_t : tupOnly (.tup ds, S) = .ok (.tup ds, S) := id rfl
theorem blt_int1 {k : Bool} : bltD m .int [.bl k] S = .ok (.int (if k then 1 else 0), S) := id rfl
theorem blt_dictl {p : List D × List D} (h : dictD ds [] [] = some p) : bltD m .dict [.lst ds] S = .ok (.ref S.length, S ++ [.dct p.1 p.2]) := by
  show dicD [.lst ds] S = _
  simp only [dicD, h]
theorem blt_dictN {p : List D × List D} (h : dictN ds [] [] = some p) : bltD m .dictN [.lst ds] S = .ok (.ref S.length, S ++ [.dcn p.1 p.2]) := by
  show dicND [.lst ds] S = _
  simp only [dicND, h]
theorem rec_get {ks vs : List D} (h : S[n]? = some (.dct ks vs)) : recvOk .get2 (.ref n) S = true := by
  simp only [recvOk, h]
theorem rec_getn {ks vs : List D} (h : S[n]? = some (.dcn ks vs)) : recvOk .get2 (.ref n) S = true := by
  simp only [recvOk, h]
theorem mth_get {ks vs : List D} (h : S[n]? = some (.dct ks vs)) (h2 : keyOk a ∧ ks.all keyOk) : mthD .get2 (.ref n) [a, d] S = .ok ((findK ks vs a).getD d, S) := by
  show get2D (.ref n) [a, d] S = _
  simp only [get2D, h]
  rw [if_pos h2]
theorem mth_getn {ks vs : List D} {k : NestedKey} (h : S[n]? = some (.dcn ks vs)) (h2 : keyN a = some k) : mthD .get2 (.ref n) [a, d] S = .ok ((findN ks vs k).getD d, S) := by
  show get2D (.ref n) [a, d] S = _
  simp only [get2D, h, h2]
theorem mem_n {ks vs : List D} {k : NestedKey} (h : S[n]? = some (.dcn ks vs)) (h2 : keyN a = some k) : memD S a (.ref n) = some (inN k ks) := by
  simp only [memD, h, h2, Option.map_some]
theorem put_n {ks vs : List D} {k : NestedKey} (h : S[n]? = some (.dcn ks vs)) (h2 : keyN a = some k) (h3 : ks.length < sizeLine) : subD (.ref n) a d S = .ok (S.set n (.dcn (putN ks vs a k d).1 (putN ks vs a k d).2)) := by
  simp only [subD, h, h2]
  rw [if_pos h3]
theorem ix_n {ks vs : List D} {k : NestedKey} (h : S[n]? = some (.dcn ks vs)) (h2 : keyN a = some k) (h3 : findN ks vs k = some d) : ixD (.ref n) a S = .ok (d, S) := by
  simp only [ixD, h, h2, Option.bind_some, h3]
theorem blt_sort1 (h : allStr [a] = none) (h2 : allInt [a] = none) : bltD m .sorted [.lst [a]] S = litD m [a] S := by
  simp only [bltD, items, h, h2]
  rfl
theorem it_r1i (h1 : -(2 ^ 61) ≤ j) (h2 : j ≤ 16777216) : itrD .rng1 [.int j] S = .ok (.sq ((List.range j.toNat).map fun (j : Nat) => .int (j : Int))) := by
  have hz : sizeLine = 16777216 := by decide
  simp only [itrD]
  rw [if_pos (by omega), range0]
theorem it_s : itrD .sq [.str x] S = .ok (.sq (x.map fun c => .str [c])) := id rfl
theorem it_t : itrD .sq [.tup ds] S = .ok (.sq ds) := id rfl
theorem it_l : itrD .sq [.lst ds] S = .ok (.sq ds) := id rfl
theorem it_r1 (h : n ≤ 16777216) : itrD .rng1 [.int (n : Int)] S = .ok (.sq ((List.range n).map fun (j : Nat) => .int (j : Int))) := by
  have hz : sizeLine = 16777216 := by decide
  simp only [itrD]
  rw [if_pos (by omega)]
  have : (n : Int).toNat = n := by omega
  rw [this, range0]
theorem compI_sq {f : D → Store → R (List D × Store)} : compI f (.sq ds) S = compL f ds S := id rfl
theorem forI_sq {f : D → Env → Store → R (Fl × Env × Store)} : forI f (.sq ds) ρ S = forL f ds ρ S := id rfl
theorem bind1 {v : Nat} : bindG [v] true d ρ = .ok (ρ.set v (some d)) := id rfl
theorem rev_s : revD (.str x) S = .ok (.str x.reverse, S) := id rfl
theorem rev_t : revD (.tup ds) S = .ok (.tup ds.reverse, S) := id rfl
theorem rev_l : revD (.lst ds) S = .ok (.lst ds.reverse, S) := id rfl
theorem blt_inrg : bltD m .inRg [.int i, .int j] S = .ok (.bl (decide (0 ≤ i ∧ i < j)), S) := id rfl
theorem blt_ninrg : bltD m .notInRg [.int i, .int j] S = .ok (.bl (!decide (0 ≤ i ∧ i < j)), S) := id rfl
theorem c_lsetS {xs : List (List Char)} (h : xs.length < 4000) : bltD m .lenSet [.lst (xs.map .str)] S = .ok (.int (ded xs).length, S) := by
  show setD m false (.lst (xs.map .str)) S = _
  simp only [setD, items, allStr_map]
  rw [if_pos h, if_neg Bool.false_ne_true]
theorem c_ssetS {xs : List (List Char)} (h : xs.length < 4000) : bltD m .sortedSet [.lst (xs.map .str)] S = litD m ((sortS (ded xs)).map .str) S := by
  show setD m true (.lst (xs.map .str)) S = _
  simp only [setD, items, allStr_map]
  rw [if_pos h]
  simp only [if_true]
theorem setD_int {srt : Bool} {a : D} {ns : List Int} (h1 : items S a = some ds) (h2 : allStr ds = none) (h3 : allInt ds = some ns) (h : ns.length < 64) : setD m srt a S = if srt then litD m ((sortI (ded ns)).map .int) S else .ok (.int (ded ns).length, S) := by
  simp only [setD, h1, h2, h3]
  rw [if_pos (by omega), if_pos h]
theorem c_trg {n : Nat} (h : n ≤ 16777216) : bltD m .tupRg [.int (n : Int)] S = .ok (.tup ((List.range n).map fun (j : Nat) => .int (j : Int)), S) := by
  have hz : sizeLine = 16777216 := by decide
  show trgD [.int (n : Int)] S = _
  unfold trgD
  simp only
  rw [if_pos (by omega), Int.toNat_natCast, range0]
theorem rec_upr : recvOk .upper (.str x) S = true := id rfl
theorem mth_upr (h : x.length ≤ 5592405) (h2 : (x.all fun c => decide (c.toNat < 128)) = true) : mthD .upper (.str x) [] S = .ok (.str (x.map upC), S) := by
  show uprD (.str x) [] S = _
  unfold uprD
  simp only
  rw [if_pos ⟨h, h2⟩]
theorem bind2 {v w : Nat} : bindG [v, w] false (.tup [a, b]) ρ = .ok ((ρ.set v (some a)).set w (some b)) := id rfl
theorem sl_t {lo hi : Option Int} : slD m (.tup ds) lo hi S = .ok (.tup (cut ds lo hi), S) := id rfl
theorem sl_s {lo hi : Option Int} : slD m (.str x) lo hi S = .ok (.str (cut x lo hi), S) := id rfl
theorem sl_l {lo hi : Option Int} : slD m (.lst ds) lo hi S = litD m (cut ds lo hi) S := id rfl
theorem part_i : partD (.int i, S) = .ok (some i, S) := id rfl
theorem eq_ss : eqD (.str x) (.str y) = decide (x = y) := by
  unfold eqD
  simp only [D.py, PyData.eqv]
  exact toS_beq x y
theorem eq_ii : eqD (.int i) (.int j) = decide (i = j) := by
  unfold eqD
  simp only [D.py, PyData.eqv]
  by_cases h : i = j <;> simp [h]
theorem eq_bb {k l : Bool} : eqD (.bl k) (.bl l) = (k == l) := by
  unfold eqD
  simp only [D.py, PyData.eqv]
theorem eq_tn : eqD (.tup []) (.tup []) = true := by
  unfold eqD
  simp only [D.py, D.pys, PyData.eqv, PyData.eqvAll]
theorem eq_tc : eqD (.tup (a :: ds)) (.tup (b :: es)) = (eqD a b && eqD (.tup ds) (.tup es)) := by
  unfold eqD
  simp only [D.py, D.pys, PyData.eqv, PyData.eqvAll]
theorem eq_tc0 : eqD (.tup (a :: ds)) (.tup []) = false := by
  unfold eqD
  simp only [D.py, D.pys, PyData.eqv, PyData.eqvAll]
theorem eq_t0c : eqD (.tup []) (.tup (a :: ds)) = false := by
  unfold eqD
  simp only [D.py, D.pys, PyData.eqv, PyData.eqvAll]
theorem in_nil : inD a [] = false := id rfl
theorem in_cons : inD a (b :: ds) = (eqD b a || inD a ds) := id rfl
theorem in_map {A : Type} {f : A → D} {xs : List A} : inD a (xs.map f) = xs.any fun x => eqD (f x) a := by
  unfold inD
  rw [List.any_map]; rfl
theorem in_strs {xs : List (List Char)} : inD (.str x) (xs.map .str) = decide (x ∈ xs) := by
  rw [in_map, Bool.eq_iff_iff]
  simp only [List.any_eq_true, eq_ss, decide_eq_true_eq]
  exact ⟨fun ⟨y, h, e⟩ => e ▸ h, fun h => ⟨x, h, rfl⟩⟩
theorem in_sgn {c : Char} {xs : List Char} : inD (.str [c]) (xs.map fun c => .str [c]) = decide (c ∈ xs) := by
  rw [in_map, Bool.eq_iff_iff]
  simp only [List.any_eq_true, eq_ss, decide_eq_true_eq, List.cons.injEq, and_true]
  exact ⟨fun ⟨y, h, e⟩ => e ▸ h, fun h => ⟨c, h, rfl⟩⟩
theorem flat_map {A : Type} {f : A → D} {xs : List A} : ((xs.map f).all flatD) = xs.all fun x => flatD (f x) := by
  rw [List.all_map]; rfl
theorem all_true {A : Type} {xs : List A} : (xs.all fun _ => true) = true := by simp
end
section
variable {S : Store} {i j : Int} {x y : List Char} {k l : Bool} {n : Nat}
theorem cmp_eq_ii : cmpD .eq (.int i) (.int j) S = .ok (.bl (decide (i = j)), S) := by
  rw [cmp_eq, deref_i, deref_i, if_pos ⟨rfl, rfl⟩, eq_ii]
theorem cmp_eq_ss : cmpD .eq (.str x) (.str y) S = .ok (.bl (decide (x = y)), S) := by
  rw [cmp_eq, deref_s, deref_s, if_pos ⟨rfl, rfl⟩, eq_ss]
theorem cmp_eq_bb : cmpD .eq (.bl k) (.bl l) S = .ok (.bl (k == l), S) := by
  rw [cmp_eq, deref_b, deref_b, if_pos ⟨rfl, rfl⟩, eq_bb]
theorem cmp_ne_ii : cmpD .ne (.int i) (.int j) S = .ok (.bl (!decide (i = j)), S) := by
  rw [cmp_ne, deref_i, deref_i, if_pos ⟨rfl, rfl⟩, eq_ii]
theorem cmp_ne_ss : cmpD .ne (.str x) (.str y) S = .ok (.bl (!decide (x = y)), S) := by
  rw [cmp_ne, deref_s, deref_s, if_pos ⟨rfl, rfl⟩, eq_ss]
theorem bin_shrn : binD .shr (.int i) (.int (n : Int)) S = .ok (.int (i / 2 ^ n), S) := by
  rw [bin_shr, if_pos (by omega), Int.toNat_natCast]
theorem mem_strs {xs : List (List Char)} : memD S (.str x) (.tup (xs.map .str)) = some (decide (x ∈ xs)) := by
  rw [mem_t, if_pos ⟨rfl, by rw [flat_map]; simp [flat_s]⟩, in_strs]
theorem mem_strl {xs : List (List Char)} : memD S (.str x) (.lst (xs.map .str)) = some (decide (x ∈ xs)) := by
  rw [mem_l, if_pos ⟨rfl, by rw [flat_map]; simp [flat_s]⟩, in_strs]
end
theorem atI_n {A : Type} {xs : List A} (k : Nat) : atI xs (k : Int) = xs[k]? := by
  unfold atI ixN
  rw [if_pos (by omega)]
  by_cases h : k < xs.length
  · rw [if_pos (by omega)]; simp
  · rw [if_neg (by omega)]
    simp
    omega
theorem atI_n1 {A : Type} {xs : List A} (k : Nat) : atI xs ((k : Int) + 1) = xs[k + 1]? := by
  have : ((k : Int) + 1) = ((k + 1 : Nat) : Int) := by omega
  rw [this, atI_n]
theorem atI_0 {A : Type} {x : A} {xs : List A} : atI (x :: xs) 0 = some x := by
  have := atI_n (xs := x :: xs) 0
  simpa using this
theorem atI_1 {A : Type} {x y : A} {xs : List A} : atI (x :: y :: xs) 1 = some y := by
  have := atI_n (xs := x :: y :: xs) 1
  simpa using this
theorem atI_2 {A : Type} {x y z : A} {xs : List A} : atI (x :: y :: z :: xs) 2 = some z := by
  have := atI_n (xs := x :: y :: z :: xs) 2
  simpa using this
theorem atI_3 {A : Type} {x y z u : A} {xs : List A} : atI (x :: y :: z :: u :: xs) 3 = some u := by
  have := atI_n (xs := x :: y :: z :: u :: xs) 3
  simpa using this
/-! while -/
theorem whl_go {c : Env → Store → R (D × Store)} {f : Env → Store → R (Fl × Env × Store)} {n : Nat} {ρ : Env} {S : Store} {Q : Fl × Env × Store → Prop} (h : Ok (c ρ S) fun p => p.1 = .bl true ∧ Ok (f ρ p.2) fun q => (q.1 = .nx ∨ q.1 = .ct) ∧ Ok (whlN c f n q.2.1 q.2.2) Q) : Ok (whlN c f (n + 1) ρ S) Q := by
  rw [whlN]
  refine Ok.bind h ?_
  rintro ⟨_, S1⟩ ⟨rfl, h⟩
  refine Ok.bind h ?_
  rintro ⟨fl, ρ', S2⟩ ⟨rfl | rfl, h⟩ <;> exact h
theorem whl_end {c : Env → Store → R (D × Store)} {f : Env → Store → R (Fl × Env × Store)} {n : Nat} {ρ : Env} {S : Store} {Q : Fl × Env × Store → Prop} (h : Ok (c ρ S) fun p => p.1 = .bl false ∧ Q (.nx, ρ, p.2)) : Ok (whlN c f (n + 1) ρ S) Q := by
  rw [whlN]
  refine Ok.bind h ?_
  rintro ⟨_, S1⟩ ⟨rfl, h⟩
  rw [Ok.ok_iff]
  exact h
mutual
theorem eqD_refl : ∀ (n : Nat) (d : D), okD n d = true → eqD d d = true
  | 0, d, h => by simp [okD] at h
  | n + 1, .non, h => by unfold eqD; simp only [D.py, PyData.eqv]
  | n + 1, .bl b, h => by rw [eq_bb]; simp
  | n + 1, .int b, h => by rw [eq_ii]; simp
  | n + 1, .str b, h => by rw [eq_ss]; simp
  | n + 1, .tup ds, h => by
    simp only [okD] at h
    have := eqDs_refl n ds h
    unfold eqD
    simpa only [D.py, PyData.eqv] using this
  | n + 1, .lst ds, h => by
    simp only [okD] at h
    have := eqDs_refl n ds h
    unfold eqD
    simpa only [D.py, PyData.eqv] using this
  | n + 1, .ref b, h => by simp [okD] at h
theorem eqDs_refl : ∀ (n : Nat) (ds : List D), ds.all (okD n) = true → PyData.eqvAll (D.pys ds) (D.pys ds) = true
  | n, [], _ => by simp only [D.pys, PyData.eqvAll]
  | n, d :: ds, h => by
    simp only [List.all_cons, Bool.and_eq_true] at h
    have := eqD_refl n d h.1
    unfold eqD at this
    simp only [D.pys, PyData.eqvAll, this, eqDs_refl n ds h.2, Bool.and_self]
end
end Z

set_option Elab.async false
set_option linter.all false
set_option maxRecDepth 100000
set_option maxHeartbeats 4000000
/-! the codes of the text's defs -/
namespace Z
open PySem L2 PySem.Spec PyProof.Rows
def c_is_name : Fd := ⟨1, 2, [.ite (.or [.not (.blt false (.isTy .str) [.var 0]), .not (.chain .le .le (.con (.int 1)) (.blt false .len [.var 0]) (.glo "MOST_LETTERS"))]) [.ret (.con (.bl false))] [],
    .ret (.blt false .all [.comp false [1] [1] true .sq [.var 0] (.con (.bl true)) (.cmp .isIn (.var 1) (.glo "SMALL"))])]⟩
def c_is_rising : Fd := ⟨1, 2, [.ret (.blt false .all [.comp false [1] [1] true .rng1 [.bin .sub (.blt false .len [.var 0]) (.con (.int 1))] (.con (.bl true)) (.cmp .lt (.ix (.var 0) (.var 1)) (.ix (.var 0) (.bin .add (.var 1) (.con (.int 1)))))])]⟩
def c_are_marks : Fd := ⟨1, 2, [.ite (.or [.not (.blt false (.isTy .tuple) [.var 0]), .cmp .gt (.blt false .len [.var 0]) (.glo "MOST_MARKS"), .not (.blt false .all [.comp false [1] [1] true .sq [.var 0] (.con (.bl true)) (.call "is_name" [.var 1])])]) [.ret (.con (.bl false))] [],
    .ret (.call "is_rising" [.var 0])]⟩
def c_is_marked : Fd := ⟨1, 1, [.ite (.or [.not (.blt false (.isTy .tuple) [.var 0]), .cmp .ne (.blt false .len [.var 0]) (.con (.int 2)), .not (.call "is_name" [.ix (.var 0) (.con (.int 0))])]) [.ret (.con (.bl false))] [],
    .ret (.and [.cmp .eq (.blt false .len [.ix (.var 0) (.con (.int 0))]) (.con (.int 1)), .call "are_marks" [.ix (.var 0) (.con (.int 1))]])]⟩
def c_is_stock : Fd := ⟨1, 2, [.ite (.or [.not (.blt false (.isTy .tuple) [.var 0]), .not (.chain .le .le (.con (.int 1)) (.blt false .len [.var 0]) (.glo "MOST_SOUNDS")), .not (.blt false .all [.comp false [1] [1] true .sq [.var 0] (.con (.bl true)) (.call "is_marked" [.var 1])])]) [.ret (.con (.bl false))] [],
    .ret (.call "is_rising" [.call "sounds_of" [.var 0]])]⟩
def c_sounds_of : Fd := ⟨1, 3, [.ret (.blt false .tuple [.comp false [1, 2] [1, 2] false .sq [.var 0] (.con (.bl true)) (.var 1)])]⟩
def c_law_mixed : Fd := ⟨1, 1, [.ret (.bin .mod (.bin .mul (.var 0) (.con (.int 262406895267124108351839057402211873468251940277165213587343))) (.bin .pow (.con (.int 10)) (.con (.int 60))))]⟩
def c_law_pack : Fd := ⟨2, 4, [.asg (.nm 2) (.con (.int 0)),
    .fo [3] true .sq [.lst false [.bin .add (.var 1) (.con (.int 1)), .var 1]] [.asg (.nm 2) (.bin .add (.bin .mul (.var 2) (.bin .pow (.con (.int 10)) (.con (.int 60)))) (.call "_law_mixed" [.ix (.bin .add (.sl false (.var 0) true (.var 3) true (.bin .add (.var 3) (.con (.int 1)))) (.lst false [.bin .add (.bin .mul (.con (.int 7919)) (.var 3)) (.con (.int 61))])) (.con (.int 0))]))],
    .ret (.lst true [.var 2])]⟩
def c_law_take : Fd := ⟨2, 3, [.asg (.tp [.sub (.var 0) (.con (.int 0)), .nm 2]) (.blt false .divmod [.ix (.var 0) (.con (.int 0)), .var 1]),
    .ret (.var 2)]⟩
def c_law_drawn_sounds : Fd := ⟨1, 5, [.asg (.nm 1) (.con (.str ['a', 'b', 'c', 'd', 'e', 'f', 'g', 'h', 'i', 'j', 'k', 'l', 'm', 'n', 'o', 'p', 'q', 'r', 's', 't', 'u', 'v', 'w', 'x', 'y', 'z'])),
    .asg (.tp [.nm 2, .nm 3]) (.tup [.call "_law_take" [.var 0, .con (.int 26)], .bin .add (.con (.int 1)) (.call "_law_take" [.var 0, .con (.int 25)])]),
    .ret (.mth .join (.con (.str [])) [.blt false .sortedSet [.comp false [4] [4] true .rng1 [.bin .add (.con (.int 1)) (.call "_law_take" [.var 0, .con (.int 4)])] (.con (.bl true)) (.ix (.var 1) (.bin .mod (.bin .add (.var 2) (.bin .mul (.var 3) (.var 4))) (.con (.int 26))))]])]⟩
def c_law_marks : Fd := ⟨1, 3, [.asg (.nm 1) (.con (.str ['a', 'b', 'c', 'd', 'e', 'f', 'g', 'h', 'i', 'j', 'k', 'l', 'm', 'n', 'o', 'p', 'q', 'r', 's', 't', 'u', 'v', 'w', 'x', 'y', 'z'])),
    .asg (.nm 2) (.call "_law_take" [.var 0, .con (.int 26)]),
    .asg (.nm 1) (.bin .add (.sl false (.var 1) true (.var 2) false .no) (.sl false (.var 1) false .no true (.var 2))),
    .ret (.lst false [.sl false (.var 1) false .no true (.con (.int 1)), .sl false (.var 1) false .no true (.con (.int 3)), .sl false (.var 1) true (.con (.int 4)) true (.con (.int 9)), .sl false (.var 1) true (.con (.int 9)) true (.con (.int 17)), .sl false (.var 1) true (.con (.int 20)) true (.con (.int 22))])]⟩
def c_law_stock : Fd := ⟨1, 8, [.asg (.nm 1) (.call "_law_drawn_sounds" [.var 0]),
    .asg (.nm 2) (.call "_law_marks" [.var 0]),
    .asg (.nm 3) (.lst true []),
    .fo [4] true .sq [.var 1] [.asg (.nm 5) (.call "_law_take" [.var 0, .con (.int 32)]),
      .asg (.nm 6) (.blt false .sorted [.comp false [7] [7] true .rng1 [.con (.int 5)] (.cmp .eq (.bin .band (.bin .shr (.var 5) (.var 7)) (.con (.int 1))) (.con (.int 1))) (.ix (.var 2) (.var 7))]),
      .exp (.mth .append (.var 3) [.tup [.var 4, .blt false .tuple [.sl false (.var 6) false .no true (.con (.int 4))]]])],
    .ret (.blt false .tuple [.var 3])]⟩
def c_law_is : Fd := ⟨2, 2, [.ret (.and [.blt false (.isTy .bool) [.var 0], .cmp .eq (.var 0) (.var 1)])]⟩
def c_law_no_stocks : Fd := ⟨1, 7, [.asg (.tp [.nm 4, .nm 5]) (.ix (.var 0) (.con (.int 0))),
    .asg (.nm 1) (.lst true [.con .non, .con (.int 7), .con (.bl true), .con (.str ['-']), .con (.str []), .tup [], .dct [] [], .lst false [.ix (.var 0) (.con (.int 0))], .ix (.var 0) (.con (.int 0)), .tup [.var 0], .blt false .list [.var 0], .bin .add (.var 0) (.sl false (.var 0) false .no true (.con (.int 1)))]),
    .asg (.nm 1) (.bin .addm (.var 1) (.lst false [.bin .add (.var 0) (.tup [.con .non])])),
    .asg (.nm 1) (.bin .addm (.var 1) (.lst false [.bin .add (.var 0) (.tup [.tup []]), .bin .add (.var 0) (.tup [.tup [.con (.str ['z'])]]), .bin .add (.var 0) (.tup [.tup [.con (.str ['z']), .tup [], .tup []]]), .bin .add (.var 0) (.tup [.lst false [.con (.str ['z']), .tup []]])])),
    .asg (.nm 1) (.bin .addm (.var 1) (.lst false [.bin .add (.rev (.var 0)) (.var 0)])),
    .fo [2] true .sq [.lst false [.con (.str []), .con (.str ['A']), .con (.str ['a', 'b']), .con (.str ['#']), .con (.str ['0']), .con (.str [' ']), .con .non, .con (.int 7), .tup [.con (.str ['a'])], .lst false [.var 4]]] [.exp (.mth .append (.var 1) [.bin .add (.tup [.tup [.var 2, .var 5]]) (.sl false (.var 0) true (.con (.int 1)) false .no)])],
    .asg (.nm 3) (.lst false [.blt false .list [.var 5], .con .non, .con (.str ['s', 't', 'o', 'p']), .tup [.con (.str [])], .tup [.con (.str ['A'])], .tup [.con (.str ['a', 'b', 'c', 'd', 'e', 'f', 'g', 'h', 'i'])], .tup [.con (.str ['a']), .con (.str ['a'])], .tup [.con (.str ['b']), .con (.str ['a'])], .tup [.con .non], .tup [.con (.int 7)]]),
    .asg (.nm 3) (.bin .add (.var 3) (.lst false [.tup [.tup [.con (.str ['a'])]]])),
    .fo [2] true .sq [.var 3] [.exp (.mth .append (.var 1) [.bin .add (.tup [.tup [.var 4, .var 2]]) (.sl false (.var 0) true (.con (.int 1)) false .no)])],
    .fo [2] true .sq [.lst false [.tup [.con (.str ['a']), .con (.str ['b']), .con (.str ['c']), .con (.str ['d']), .con (.str ['e'])], .tup [.con (.str ['a', ' ', 'b'])], .tup [.con (.str ['s', 't', 'o', 'p']), .con (.str ['o', 'p', 'e', 'n'])], .dct [] [], .tup [.con (.str ['a']), .con .non], .tup [.con (.str ['a', '1'])], .tup [.con (.str ['a']), .lst false [.con (.str ['b'])]], .tup [.dct [] []]]] [.exp (.mth .append (.var 1) [.bin .add (.tup [.tup [.var 4, .var 2]]) (.sl false (.var 0) true (.con (.int 1)) false .no)])],
    .ite (.cmp .gt (.blt false .len [.var 0]) (.con (.int 1))) [.asg (.nm 1) (.bin .addm (.var 1) (.lst false [.rev (.var 0), .bin .add (.sl false (.var 0) true (.con (.int 1)) false .no) (.sl false (.var 0) false .no true (.con (.int 1)))]))] [],
    .asg (.nm 1) (.bin .addm (.var 1) (.lst false [.tup [.con (.str ['a', 'b'])], .tup [.tup [.con (.str ['a', 'b']), .tup []]], .tup [.con (.str ['a']), .con (.str ['b'])]])),
    .ret (.bin .add (.var 1) (.lst false [.blt false .tuple [.comp false [6] [6] true .sq [.con (.str ['a', 'b', 'c', 'd', 'e'])] (.con (.bl true)) (.tup [.var 6, .tup []])], .blt false .tuple [.comp false [6] [6] true .sq [.con (.str ['b', 'a'])] (.con (.bl true)) (.tup [.var 6, .tup []])]]))]⟩
def c_law : Fd := ⟨1, 12, [.fo [1] true .rng3 [.con (.int 0), .blt false .max2 [.con (.int 1), .blt false .min2 [.blt false .len [.var 0], .con (.int 12)]], .con (.int 2)] [.asg (.nm 4) (.call "_law_stock" [.call "_law_pack" [.var 0, .var 1]]),
      .ite (.not (.blt false .all [.comp false [11] [11] true .rng2 [.con (.int 1), .bin .add (.blt false .len [.var 4]) (.con (.int 1))] (.con (.bl true)) (.call "_law_is" [.call "is_stock" [.sl false (.var 4) false .no true (.var 11)], .con (.bl true)])])) [.ret (.con (.bl false))] [],
      .ite (.not (.blt false .all [.comp false [10] [10] true .sq [.call "_law_no_stocks" [.var 4]] (.con (.bl true)) (.call "_law_is" [.call "is_stock" [.var 10], .con (.bl false)])])) [.ret (.con (.bl false))] [],
      .asg (.nm 5) (.call "_law_pack" [.var 0, .bin .add (.var 1) (.con (.int 1))]),
      .asg (.nm 6) (.con (.str [' ', '!', '"', '#', '$', '&', '\'', '(', ')', '*', '+', ',', '-', '.', '/', '0', '1', '2', '3', '4', '5', '6', '7', '8', '9', ':', ';', '<', '=', '>', '?', '@', 'A', 'B', 'C', 'D', 'E', 'F', 'G', 'H', 'I', 'J', 'K', 'L', 'M', 'N', 'O', 'P', 'Q', 'R', 'S', 'T', 'U', 'V', 'W', 'X', 'Y', 'Z', '[', '\\', ']', '^', '_', '`', '{', '|', '}', '~'])),
      .asg (.nm 7) (.ix (.var 6) (.call "_law_take" [.var 5, .blt false .len [.var 6]])),
      .asg (.nm 8) (.sl false (.con (.str ['a', 'b', 'c', 'd', 'e', 'f', 'g'])) false .no true (.call "_law_take" [.var 5, .con (.int 8)])),
      .ite (.or [.not (.call "_law_is" [.call "is_name" [.bin .add (.var 8) (.var 7)], .con (.bl false)]), .not (.call "_law_is" [.call "is_name" [.bin .add (.var 7) (.var 8)], .con (.bl false)])]) [.ret (.con (.bl false))] [],
      .ite (.or [.not (.call "_law_is" [.call "is_stock" [.tup [.tup [.var 7, .tup []]]], .con (.bl false)]), .not (.call "_law_is" [.call "is_stock" [.tup [.tup [.con (.str ['a']), .tup [.bin .add (.var 8) (.var 7)]]]], .con (.bl false)])]) [.ret (.con (.bl false))] []],
    .asg (.nm 2) (.blt false .tuple [.comp false [9] [9] true .sq [.con (.str ['b', 'c', 'x', 'z'])] (.con (.bl true)) (.tup [.var 9, .tup [.con (.str ['a']), .con (.str ['b']), .con (.str ['c']), .con (.str ['d'])]])]),
    .ite (.or [.not (.call "_law_is" [.call "is_stock" [.var 2], .con (.bl true)]), .not (.blt false .all [.comp false [9] [9] true .sq [.lst false [.con (.str ['a']), .con (.str ['a', 'b', 'c', 'd', 'e', 'f', 'g', 'h']), .con (.str ['z', 'z'])]] (.con (.bl true)) (.call "_law_is" [.call "is_name" [.var 9], .con (.bl true)])])]) [.ret (.con (.bl false))] [],
    .asg (.nm 3) (.lst false [.con (.str []), .con (.str ['a', 'b', 'c', 'd', 'e', 'f', 'g', 'h', 'i']), .con (.str ['A']), .con (.str ['a', '1']), .con (.str ['a', ' ', 'b']), .con (.str [' ']), .con (.str ['#']), .con (.str ['0']), .con (.str ['a', '-']), .con .non, .con (.int 7), .con (.bl true), .tup [.con (.str ['a'])], .lst false [.con (.str ['a'])], .dct [] [], .tup [], .con (.str ['a', '
'])]),
    .ret (.blt false .all [.comp false [10] [10] true .sq [.var 3] (.con (.bl true)) (.call "_law_is" [.call "is_name" [.var 10], .con (.bl false)])])]⟩
def codes : List (Str × Fd) := [(("is_name" : Str), c_is_name), (("is_rising" : Str), c_is_rising), (("are_marks" : Str), c_are_marks), (("is_marked" : Str), c_is_marked), (("is_stock" : Str), c_is_stock), (("sounds_of" : Str), c_sounds_of), (("_law_mixed" : Str), c_law_mixed), (("_law_pack" : Str), c_law_pack), (("_law_take" : Str), c_law_take), (("_law_drawn_sounds" : Str), c_law_drawn_sounds), (("_law_marks" : Str), c_law_marks), (("_law_stock" : Str), c_law_stock), (("_law_is" : Str), c_law_is), (("_law_no_stocks" : Str), c_law_no_stocks), (("law" : Str), c_law)]
def consts : List (Str × D) := [("SMALL", .str ['a', 'b', 'c', 'd', 'e', 'f', 'g', 'h', 'i', 'j', 'k', 'l', 'm', 'n', 'o', 'p', 'q', 'r', 's', 't', 'u', 'v', 'w', 'x', 'y', 'z']), ("MOST_LETTERS", .int 8), ("MOST_SOUNDS", .int 4), ("MOST_MARKS", .int 4)]
def pg : Pg := ⟨fun x => codes.lookup x, fun x => consts.lookup x, 100000⟩
def tab : Tab := ⟨[("all" : Str), ("bool" : Str), ("divmod" : Str), ("isinstance" : Str), ("len" : Str), ("list" : Str), ("max" : Str), ("min" : Str), ("range" : Str), ("set" : Str), ("sorted" : Str), ("str" : Str), ("tuple" : Str)], [("is_name" : Str), ("is_rising" : Str), ("are_marks" : Str), ("is_marked" : Str), ("is_stock" : Str), ("sounds_of" : Str), ("_law_mixed" : Str), ("_law_pack" : Str), ("_law_take" : Str), ("_law_drawn_sounds" : Str), ("_law_marks" : Str), ("_law_stock" : Str), ("_law_is" : Str), ("_law_no_stocks" : Str), ("law" : Str)], [("SMALL" : Str), ("MOST_LETTERS" : Str), ("MOST_SOUNDS" : Str), ("MOST_MARKS" : Str)]⟩
def top (i : Nat) : Stmt := PySem.Challenge.pw_soundrules_k01_stocks_of_any_things.main.body.getD i (.Pass ⟨0, 0, 0, 0⟩)
def df_c_is_name : Df := ⟨top 5, "is_name", "is_name", ["thing", "sign"], ["thing"], c_is_name⟩
theorem ck_c_is_name : dfC tab df_c_is_name = true := by decide +kernel
theorem fn_c_is_name : pg.fn "is_name" = some c_is_name := by kernel_rfl
def df_c_is_rising : Df := ⟨top 6, "is_rising", "is_rising", ["things", "k"], ["things"], c_is_rising⟩
theorem ck_c_is_rising : dfC tab df_c_is_rising = true := by decide +kernel
theorem fn_c_is_rising : pg.fn "is_rising" = some c_is_rising := by kernel_rfl
def df_c_are_marks : Df := ⟨top 7, "are_marks", "are_marks", ["thing", "mark"], ["thing"], c_are_marks⟩
theorem ck_c_are_marks : dfC tab df_c_are_marks = true := by decide +kernel
theorem fn_c_are_marks : pg.fn "are_marks" = some c_are_marks := by kernel_rfl
def df_c_is_marked : Df := ⟨top 8, "is_marked", "is_marked", ["thing"], ["thing"], c_is_marked⟩
theorem ck_c_is_marked : dfC tab df_c_is_marked = true := by decide +kernel
theorem fn_c_is_marked : pg.fn "is_marked" = some c_is_marked := by kernel_rfl
def df_c_is_stock : Df := ⟨top 9, "is_stock", "is_stock", ["thing", "one"], ["thing"], c_is_stock⟩
theorem ck_c_is_stock : dfC tab df_c_is_stock = true := by decide +kernel
theorem fn_c_is_stock : pg.fn "is_stock" = some c_is_stock := by kernel_rfl
def df_c_sounds_of : Df := ⟨top 10, "sounds_of", "sounds_of", ["stock", "sound", "marks"], ["stock"], c_sounds_of⟩
theorem ck_c_sounds_of : dfC tab df_c_sounds_of = true := by decide +kernel
theorem fn_c_sounds_of : pg.fn "sounds_of" = some c_sounds_of := by kernel_rfl
def df_c_law_mixed : Df := ⟨top 12, "_law_mixed", "_law_mixed", ["_law_cell"], ["_law_cell"], c_law_mixed⟩
theorem ck_c_law_mixed : dfC tab df_c_law_mixed = true := by decide +kernel
theorem fn_c_law_mixed : pg.fn "_law_mixed" = some c_law_mixed := by kernel_rfl
def df_c_law_pack : Df := ⟨top 13, "_law_pack", "_law_pack", ["_law_script", "_law_k", "_law_found", "_law_at"], ["_law_script", "_law_k"], c_law_pack⟩
theorem ck_c_law_pack : dfC tab df_c_law_pack = true := by decide +kernel
theorem fn_c_law_pack : pg.fn "_law_pack" = some c_law_pack := by kernel_rfl
def df_c_law_take : Df := ⟨top 14, "_law_take", "_law_take", ["_law_pack_here", "_law_size", "_law_digit"], ["_law_pack_here", "_law_size"], c_law_take⟩
theorem ck_c_law_take : dfC tab df_c_law_take = true := by decide +kernel
theorem fn_c_law_take : pg.fn "_law_take" = some c_law_take := by kernel_rfl
def df_c_law_drawn_sounds : Df := ⟨top 15, "_law_drawn_sounds", "_law_drawn_sounds", ["_law_pack_here", "_law_letters", "_law_at", "_law_by", "_law_k"], ["_law_pack_here"], c_law_drawn_sounds⟩
theorem ck_c_law_drawn_sounds : dfC tab df_c_law_drawn_sounds = true := by decide +kernel
theorem fn_c_law_drawn_sounds : pg.fn "_law_drawn_sounds" = some c_law_drawn_sounds := by kernel_rfl
def df_c_law_marks : Df := ⟨top 16, "_law_marks", "_law_marks", ["_law_pack_here", "_law_letters", "_law_turn"], ["_law_pack_here"], c_law_marks⟩
theorem ck_c_law_marks : dfC tab df_c_law_marks = true := by decide +kernel
theorem fn_c_law_marks : pg.fn "_law_marks" = some c_law_marks := by kernel_rfl
def df_c_law_stock : Df := ⟨top 17, "_law_stock", "_law_stock", ["_law_pack_here", "_law_sounds", "_law_known", "_law_found", "_law_sound", "_law_number", "_law_marks_here", "_law_k"], ["_law_pack_here"], c_law_stock⟩
theorem ck_c_law_stock : dfC tab df_c_law_stock = true := by decide +kernel
theorem fn_c_law_stock : pg.fn "_law_stock" = some c_law_stock := by kernel_rfl
def df_c_law_is : Df := ⟨top 18, "_law_is", "_law_is", ["_law_found", "_law_due"], ["_law_found", "_law_due"], c_law_is⟩
theorem ck_c_law_is : dfC tab df_c_law_is = true := by decide +kernel
theorem fn_c_law_is : pg.fn "_law_is" = some c_law_is := by kernel_rfl
def df_c_law_no_stocks : Df := ⟨top 19, "_law_no_stocks", "_law_no_stocks", ["_law_stock_here", "_law_found", "_law_odd", "_law_odds", "_law_sound", "_law_marks_here", "_law_one"], ["_law_stock_here"], c_law_no_stocks⟩
theorem ck_c_law_no_stocks : dfC tab df_c_law_no_stocks = true := by decide +kernel
theorem fn_c_law_no_stocks : pg.fn "_law_no_stocks" = some c_law_no_stocks := by kernel_rfl
def df_c_law : Df := ⟨top 20, "law", "law", ["_law_script", "_law_k", "_law_four", "_law_odd", "_law_stock_here", "_law_pack_here", "_law_signs", "_law_sign", "_law_name", "_law_one", "_law_thing", "_law_size"], ["_law_script"], c_law⟩
theorem ck_c_law : dfC tab df_c_law = true := by decide +kernel
theorem fn_c_law : pg.fn "law" = some c_law := by kernel_rfl
end Z

set_option Elab.async false
set_option linter.all false
set_option maxRecDepth 100000
set_option maxHeartbeats 4000000
namespace Z
open PySem L2 PySem.Spec PyProof.Rows
abbrev Stk := List (Char × List (List Char))
def sD (c : Char) : D := .str [c]
def sndD (p : Char × List (List Char)) : D := .tup [sD p.1, .tup (p.2.map .str)]
def stockD (st : Stk) : D := .tup (st.map sndD)
theorem sizeL : sizeLine = 16777216 := by decide

theorem e_take {k n : Nat} {S : Store} {m : Int} (h : Pk n S) (h1 : 0 < m) (h2 : m < 1073741824) : Ok (callF pg (k + 1) "_law_take" [.ref n, .int m] S) fun p => ∃ r : Nat, (r : Int) < m ∧ p.1 = .int r ∧ Fr1 n S p.2 := by
  have hp := h
  obtain ⟨N, e⟩ := h
  have h3 : m.natAbs < 1073741824 := by omega
  rw [callF_s fn_c_law_take]
  simp [c_law_take, len_t, R.ok_bind, R.bad_bind, evE, evEs, evAnd, evOr, evS, evSs, asg, asgs, runF, entry, wipeE, Ok.ok_iff, subTy, R.bind_assoc, forL, asgs, of_some, litD_f, litD_t, bin_add, bin_sub, bin_band, cmp_lti, cmp_lts, cmp_le, cmp_gt, cmp_ge, cmp_none, cmp_nnone, cmp_true, cmp_ntrue, ofB_some, cmp_in, cmp_nin, nonD_non, nonD_s, nonD_t, nonD_i, nonD_l, nonD_r, nonD_b, deref_s, deref_t, deref_l, deref_i, deref_b, deref_n, ok_s, ok_i, ok_b, ok_n, mem_s, flat_s, flat_i, flat_b, flat_n, ix_s, ix_t, ix_l, items_t, items_l, len_s, len_t2, len_t4, len_l, tuple_s, tuple_t, tuple_l, list_s, list_t, list_l, blt_max, blt_min, blt_all, blt_any, ty_s, ty_t, ty_l, ty_i, ty_b, ty_n, rec_join, rec_idx, rec_idxT, tupOnly_t, blt_int1, it_s, it_t, it_l, compI_sq, forI_sq, bind1, rev_s, rev_t, rev_l, blt_inrg, blt_ninrg, rec_upr, bind2, sl_t, sl_s, sl_l, part_i, eq_ss, eq_ii, eq_bb, eq_tn, eq_tc, eq_tc0, eq_t0c, in_nil, in_cons, in_strs, in_sgn, flat_map, all_true, cmp_eq_ii, cmp_eq_ss, cmp_eq_bb, cmp_ne_ii, cmp_ne_ss, bin_shrn, mem_strs, mem_strl, atI_0, atI_1, atI_2, atI_3, blt_divmod, ix_r e, h1, h3, subD, e, ixN]
  have := Int.emod_nonneg N (show m ≠ 0 by omega)
  have := Int.emod_lt_of_pos N h1
  exact ⟨(N % m).toNat, by omega, by omega, Fr1.set hp⟩
theorem e_sounds_of {k : Nat} {S : Store} {st : Stk} : callF pg (k + 1) "sounds_of" [stockD st] S = .ok (.tup (st.map fun p => sD p.1), S) := by
  rw [callF_s fn_c_sounds_of]
  simp [c_sounds_of, len_t, R.ok_bind, R.bad_bind, evE, evEs, evAnd, evOr, evS, evSs, asg, asgs, runF, entry, wipeE, Ok.ok_iff, subTy, R.bind_assoc, forL, asgs, of_some, litD_f, litD_t, bin_add, bin_sub, bin_band, cmp_lti, cmp_lts, cmp_le, cmp_gt, cmp_ge, cmp_none, cmp_nnone, cmp_true, cmp_ntrue, ofB_some, cmp_in, cmp_nin, nonD_non, nonD_s, nonD_t, nonD_i, nonD_l, nonD_r, nonD_b, deref_s, deref_t, deref_l, deref_i, deref_b, deref_n, ok_s, ok_i, ok_b, ok_n, mem_s, flat_s, flat_i, flat_b, flat_n, ix_s, ix_t, ix_l, items_t, items_l, len_s, len_t2, len_t4, len_l, tuple_s, tuple_t, tuple_l, list_s, list_t, list_l, blt_max, blt_min, blt_all, blt_any, ty_s, ty_t, ty_l, ty_i, ty_b, ty_n, rec_join, rec_idx, rec_idxT, tupOnly_t, blt_int1, it_s, it_t, it_l, compI_sq, forI_sq, bind1, rev_s, rev_t, rev_l, blt_inrg, blt_ninrg, rec_upr, bind2, sl_t, sl_s, sl_l, part_i, eq_ss, eq_ii, eq_bb, eq_tn, eq_tc, eq_tc0, eq_t0c, in_nil, in_cons, in_strs, in_sgn, flat_map, all_true, cmp_eq_ii, cmp_eq_ss, cmp_eq_bb, cmp_ne_ii, cmp_ne_ss, bin_shrn, mem_strs, mem_strl, atI_0, atI_1, atI_2, atI_3, stockD]
  rw [compL_map (g := fun p => sD p.1) fun p hp => by simp [sndD, len_t, R.ok_bind, R.bad_bind, evE, evEs, evAnd, evOr, evS, evSs, asg, asgs, runF, entry, wipeE, Ok.ok_iff, subTy, R.bind_assoc, forL, asgs, of_some, litD_f, litD_t, bin_add, bin_sub, bin_band, cmp_lti, cmp_lts, cmp_le, cmp_gt, cmp_ge, cmp_none, cmp_nnone, cmp_true, cmp_ntrue, ofB_some, cmp_in, cmp_nin, nonD_non, nonD_s, nonD_t, nonD_i, nonD_l, nonD_r, nonD_b, deref_s, deref_t, deref_l, deref_i, deref_b, deref_n, ok_s, ok_i, ok_b, ok_n, mem_s, flat_s, flat_i, flat_b, flat_n, ix_s, ix_t, ix_l, items_t, items_l, len_s, len_t2, len_t4, len_l, tuple_s, tuple_t, tuple_l, list_s, list_t, list_l, blt_max, blt_min, blt_all, blt_any, ty_s, ty_t, ty_l, ty_i, ty_b, ty_n, rec_join, rec_idx, rec_idxT, tupOnly_t, blt_int1, it_s, it_t, it_l, compI_sq, forI_sq, bind1, rev_s, rev_t, rev_l, blt_inrg, blt_ninrg, rec_upr, bind2, sl_t, sl_s, sl_l, part_i, eq_ss, eq_ii, eq_bb, eq_tn, eq_tc, eq_tc0, eq_t0c, in_nil, in_cons, in_strs, in_sgn, flat_map, all_true, cmp_eq_ii, cmp_eq_ss, cmp_eq_bb, cmp_ne_ii, cmp_ne_ss, bin_shrn, mem_strs, mem_strl, atI_0, atI_1, atI_2, atI_3]]
  simp [len_t, R.ok_bind, R.bad_bind, evE, evEs, evAnd, evOr, evS, evSs, asg, asgs, runF, entry, wipeE, Ok.ok_iff, subTy, R.bind_assoc, forL, asgs, of_some, litD_f, litD_t, bin_add, bin_sub, bin_band, cmp_lti, cmp_lts, cmp_le, cmp_gt, cmp_ge, cmp_none, cmp_nnone, cmp_true, cmp_ntrue, ofB_some, cmp_in, cmp_nin, nonD_non, nonD_s, nonD_t, nonD_i, nonD_l, nonD_r, nonD_b, deref_s, deref_t, deref_l, deref_i, deref_b, deref_n, ok_s, ok_i, ok_b, ok_n, mem_s, flat_s, flat_i, flat_b, flat_n, ix_s, ix_t, ix_l, items_t, items_l, len_s, len_t2, len_t4, len_l, tuple_s, tuple_t, tuple_l, list_s, list_t, list_l, blt_max, blt_min, blt_all, blt_any, ty_s, ty_t, ty_l, ty_i, ty_b, ty_n, rec_join, rec_idx, rec_idxT, tupOnly_t, blt_int1, it_s, it_t, it_l, compI_sq, forI_sq, bind1, rev_s, rev_t, rev_l, blt_inrg, blt_ninrg, rec_upr, bind2, sl_t, sl_s, sl_l, part_i, eq_ss, eq_ii, eq_bb, eq_tn, eq_tc, eq_tc0, eq_t0c, in_nil, in_cons, in_strs, in_sgn, flat_map, all_true, cmp_eq_ii, cmp_eq_ss, cmp_eq_bb, cmp_ne_ii, cmp_ne_ss, bin_shrn, mem_strs, mem_strl, atI_0, atI_1, atI_2, atI_3]
def risB (xs : List (List Char)) : Bool := (List.range (xs.length - 1)).all fun k => ltS (xs.getD k []) (xs.getD (k + 1) [])
theorem e_is_rising {k : Nat} {S : Store} {xs : List (List Char)} {d : D} (hd : d = .tup (xs.map .str) ∨ d = .lst (xs.map .str)) (hl : xs.length ≤ 16777216) : callF pg (k + 1) "is_rising" [d] S = .ok (.bl (risB xs), S) := by
  rw [callF_s fn_c_is_rising]
  rcases hd with rfl | rfl
  · simp [c_is_rising, len_t, R.ok_bind, R.bad_bind, evE, evEs, evAnd, evOr, evS, evSs, asg, asgs, runF, entry, wipeE, Ok.ok_iff, subTy, R.bind_assoc, forL, asgs, of_some, litD_f, litD_t, bin_add, bin_sub, bin_band, cmp_lti, cmp_lts, cmp_le, cmp_gt, cmp_ge, cmp_none, cmp_nnone, cmp_true, cmp_ntrue, ofB_some, cmp_in, cmp_nin, nonD_non, nonD_s, nonD_t, nonD_i, nonD_l, nonD_r, nonD_b, deref_s, deref_t, deref_l, deref_i, deref_b, deref_n, ok_s, ok_i, ok_b, ok_n, mem_s, flat_s, flat_i, flat_b, flat_n, ix_s, ix_t, ix_l, items_t, items_l, len_s, len_t2, len_t4, len_l, tuple_s, tuple_t, tuple_l, list_s, list_t, list_l, blt_max, blt_min, blt_all, blt_any, ty_s, ty_t, ty_l, ty_i, ty_b, ty_n, rec_join, rec_idx, rec_idxT, tupOnly_t, blt_int1, it_s, it_t, it_l, compI_sq, forI_sq, bind1, rev_s, rev_t, rev_l, blt_inrg, blt_ninrg, rec_upr, bind2, sl_t, sl_s, sl_l, part_i, eq_ss, eq_ii, eq_bb, eq_tn, eq_tc, eq_tc0, eq_t0c, in_nil, in_cons, in_strs, in_sgn, flat_map, all_true, cmp_eq_ii, cmp_eq_ss, cmp_eq_bb, cmp_ne_ii, cmp_ne_ss, bin_shrn, mem_strs, mem_strl, atI_0, atI_1, atI_2, atI_3]
    rw [it_r1i (by omega) (by omega)]
    simp [len_t, R.ok_bind, R.bad_bind, evE, evEs, evAnd, evOr, evS, evSs, asg, asgs, runF, entry, wipeE, Ok.ok_iff, subTy, R.bind_assoc, forL, asgs, of_some, litD_f, litD_t, bin_add, bin_sub, bin_band, cmp_lti, cmp_lts, cmp_le, cmp_gt, cmp_ge, cmp_none, cmp_nnone, cmp_true, cmp_ntrue, ofB_some, cmp_in, cmp_nin, nonD_non, nonD_s, nonD_t, nonD_i, nonD_l, nonD_r, nonD_b, deref_s, deref_t, deref_l, deref_i, deref_b, deref_n, ok_s, ok_i, ok_b, ok_n, mem_s, flat_s, flat_i, flat_b, flat_n, ix_s, ix_t, ix_l, items_t, items_l, len_s, len_t2, len_t4, len_l, tuple_s, tuple_t, tuple_l, list_s, list_t, list_l, blt_max, blt_min, blt_all, blt_any, ty_s, ty_t, ty_l, ty_i, ty_b, ty_n, rec_join, rec_idx, rec_idxT, tupOnly_t, blt_int1, it_s, it_t, it_l, compI_sq, forI_sq, bind1, rev_s, rev_t, rev_l, blt_inrg, blt_ninrg, rec_upr, bind2, sl_t, sl_s, sl_l, part_i, eq_ss, eq_ii, eq_bb, eq_tn, eq_tc, eq_tc0, eq_t0c, in_nil, in_cons, in_strs, in_sgn, flat_map, all_true, cmp_eq_ii, cmp_eq_ss, cmp_eq_bb, cmp_ne_ii, cmp_ne_ss, bin_shrn, mem_strs, mem_strl, atI_0, atI_1, atI_2, atI_3]
    rw [compL_map (g := fun k => .bl (ltS (xs.getD k []) (xs.getD (k + 1) []))) fun k hk => ?_]
    · simp [len_t, R.ok_bind, R.bad_bind, evE, evEs, evAnd, evOr, evS, evSs, asg, asgs, runF, entry, wipeE, Ok.ok_iff, subTy, R.bind_assoc, forL, asgs, of_some, litD_f, litD_t, bin_add, bin_sub, bin_band, cmp_lti, cmp_lts, cmp_le, cmp_gt, cmp_ge, cmp_none, cmp_nnone, cmp_true, cmp_ntrue, ofB_some, cmp_in, cmp_nin, nonD_non, nonD_s, nonD_t, nonD_i, nonD_l, nonD_r, nonD_b, deref_s, deref_t, deref_l, deref_i, deref_b, deref_n, ok_s, ok_i, ok_b, ok_n, mem_s, flat_s, flat_i, flat_b, flat_n, ix_s, ix_t, ix_l, items_t, items_l, len_s, len_t2, len_t4, len_l, tuple_s, tuple_t, tuple_l, list_s, list_t, list_l, blt_max, blt_min, blt_all, blt_any, ty_s, ty_t, ty_l, ty_i, ty_b, ty_n, rec_join, rec_idx, rec_idxT, tupOnly_t, blt_int1, it_s, it_t, it_l, compI_sq, forI_sq, bind1, rev_s, rev_t, rev_l, blt_inrg, blt_ninrg, rec_upr, bind2, sl_t, sl_s, sl_l, part_i, eq_ss, eq_ii, eq_bb, eq_tn, eq_tc, eq_tc0, eq_t0c, in_nil, in_cons, in_strs, in_sgn, flat_map, all_true, cmp_eq_ii, cmp_eq_ss, cmp_eq_bb, cmp_ne_ii, cmp_ne_ss, bin_shrn, mem_strs, mem_strl, atI_0, atI_1, atI_2, atI_3, risB]
    · have hk := List.mem_range.mp hk
      have h1 : k < xs.length := by omega
      have h2 : k + 1 < xs.length := by omega
      simp [len_t, R.ok_bind, R.bad_bind, evE, evEs, evAnd, evOr, evS, evSs, asg, asgs, runF, entry, wipeE, Ok.ok_iff, subTy, R.bind_assoc, forL, asgs, of_some, litD_f, litD_t, bin_add, bin_sub, bin_band, cmp_lti, cmp_lts, cmp_le, cmp_gt, cmp_ge, cmp_none, cmp_nnone, cmp_true, cmp_ntrue, ofB_some, cmp_in, cmp_nin, nonD_non, nonD_s, nonD_t, nonD_i, nonD_l, nonD_r, nonD_b, deref_s, deref_t, deref_l, deref_i, deref_b, deref_n, ok_s, ok_i, ok_b, ok_n, mem_s, flat_s, flat_i, flat_b, flat_n, ix_s, ix_t, ix_l, items_t, items_l, len_s, len_t2, len_t4, len_l, tuple_s, tuple_t, tuple_l, list_s, list_t, list_l, blt_max, blt_min, blt_all, blt_any, ty_s, ty_t, ty_l, ty_i, ty_b, ty_n, rec_join, rec_idx, rec_idxT, tupOnly_t, blt_int1, it_s, it_t, it_l, compI_sq, forI_sq, bind1, rev_s, rev_t, rev_l, blt_inrg, blt_ninrg, rec_upr, bind2, sl_t, sl_s, sl_l, part_i, eq_ss, eq_ii, eq_bb, eq_tn, eq_tc, eq_tc0, eq_t0c, in_nil, in_cons, in_strs, in_sgn, flat_map, all_true, cmp_eq_ii, cmp_eq_ss, cmp_eq_bb, cmp_ne_ii, cmp_ne_ss, bin_shrn, mem_strs, mem_strl, atI_0, atI_1, atI_2, atI_3, atI_n, atI_n1, h1, h2]
  · simp [c_is_rising, len_t, R.ok_bind, R.bad_bind, evE, evEs, evAnd, evOr, evS, evSs, asg, asgs, runF, entry, wipeE, Ok.ok_iff, subTy, R.bind_assoc, forL, asgs, of_some, litD_f, litD_t, bin_add, bin_sub, bin_band, cmp_lti, cmp_lts, cmp_le, cmp_gt, cmp_ge, cmp_none, cmp_nnone, cmp_true, cmp_ntrue, ofB_some, cmp_in, cmp_nin, nonD_non, nonD_s, nonD_t, nonD_i, nonD_l, nonD_r, nonD_b, deref_s, deref_t, deref_l, deref_i, deref_b, deref_n, ok_s, ok_i, ok_b, ok_n, mem_s, flat_s, flat_i, flat_b, flat_n, ix_s, ix_t, ix_l, items_t, items_l, len_s, len_t2, len_t4, len_l, tuple_s, tuple_t, tuple_l, list_s, list_t, list_l, blt_max, blt_min, blt_all, blt_any, ty_s, ty_t, ty_l, ty_i, ty_b, ty_n, rec_join, rec_idx, rec_idxT, tupOnly_t, blt_int1, it_s, it_t, it_l, compI_sq, forI_sq, bind1, rev_s, rev_t, rev_l, blt_inrg, blt_ninrg, rec_upr, bind2, sl_t, sl_s, sl_l, part_i, eq_ss, eq_ii, eq_bb, eq_tn, eq_tc, eq_tc0, eq_t0c, in_nil, in_cons, in_strs, in_sgn, flat_map, all_true, cmp_eq_ii, cmp_eq_ss, cmp_eq_bb, cmp_ne_ii, cmp_ne_ss, bin_shrn, mem_strs, mem_strl, atI_0, atI_1, atI_2, atI_3]
    rw [it_r1i (by omega) (by omega)]
    simp [len_t, R.ok_bind, R.bad_bind, evE, evEs, evAnd, evOr, evS, evSs, asg, asgs, runF, entry, wipeE, Ok.ok_iff, subTy, R.bind_assoc, forL, asgs, of_some, litD_f, litD_t, bin_add, bin_sub, bin_band, cmp_lti, cmp_lts, cmp_le, cmp_gt, cmp_ge, cmp_none, cmp_nnone, cmp_true, cmp_ntrue, ofB_some, cmp_in, cmp_nin, nonD_non, nonD_s, nonD_t, nonD_i, nonD_l, nonD_r, nonD_b, deref_s, deref_t, deref_l, deref_i, deref_b, deref_n, ok_s, ok_i, ok_b, ok_n, mem_s, flat_s, flat_i, flat_b, flat_n, ix_s, ix_t, ix_l, items_t, items_l, len_s, len_t2, len_t4, len_l, tuple_s, tuple_t, tuple_l, list_s, list_t, list_l, blt_max, blt_min, blt_all, blt_any, ty_s, ty_t, ty_l, ty_i, ty_b, ty_n, rec_join, rec_idx, rec_idxT, tupOnly_t, blt_int1, it_s, it_t, it_l, compI_sq, forI_sq, bind1, rev_s, rev_t, rev_l, blt_inrg, blt_ninrg, rec_upr, bind2, sl_t, sl_s, sl_l, part_i, eq_ss, eq_ii, eq_bb, eq_tn, eq_tc, eq_tc0, eq_t0c, in_nil, in_cons, in_strs, in_sgn, flat_map, all_true, cmp_eq_ii, cmp_eq_ss, cmp_eq_bb, cmp_ne_ii, cmp_ne_ss, bin_shrn, mem_strs, mem_strl, atI_0, atI_1, atI_2, atI_3]
    rw [compL_map (g := fun k => .bl (ltS (xs.getD k []) (xs.getD (k + 1) []))) fun k hk => ?_]
    · simp [len_t, R.ok_bind, R.bad_bind, evE, evEs, evAnd, evOr, evS, evSs, asg, asgs, runF, entry, wipeE, Ok.ok_iff, subTy, R.bind_assoc, forL, asgs, of_some, litD_f, litD_t, bin_add, bin_sub, bin_band, cmp_lti, cmp_lts, cmp_le, cmp_gt, cmp_ge, cmp_none, cmp_nnone, cmp_true, cmp_ntrue, ofB_some, cmp_in, cmp_nin, nonD_non, nonD_s, nonD_t, nonD_i, nonD_l, nonD_r, nonD_b, deref_s, deref_t, deref_l, deref_i, deref_b, deref_n, ok_s, ok_i, ok_b, ok_n, mem_s, flat_s, flat_i, flat_b, flat_n, ix_s, ix_t, ix_l, items_t, items_l, len_s, len_t2, len_t4, len_l, tuple_s, tuple_t, tuple_l, list_s, list_t, list_l, blt_max, blt_min, blt_all, blt_any, ty_s, ty_t, ty_l, ty_i, ty_b, ty_n, rec_join, rec_idx, rec_idxT, tupOnly_t, blt_int1, it_s, it_t, it_l, compI_sq, forI_sq, bind1, rev_s, rev_t, rev_l, blt_inrg, blt_ninrg, rec_upr, bind2, sl_t, sl_s, sl_l, part_i, eq_ss, eq_ii, eq_bb, eq_tn, eq_tc, eq_tc0, eq_t0c, in_nil, in_cons, in_strs, in_sgn, flat_map, all_true, cmp_eq_ii, cmp_eq_ss, cmp_eq_bb, cmp_ne_ii, cmp_ne_ss, bin_shrn, mem_strs, mem_strl, atI_0, atI_1, atI_2, atI_3, risB]
    · have hk := List.mem_range.mp hk
      have h1 : k < xs.length := by omega
      have h2 : k + 1 < xs.length := by omega
      simp [len_t, R.ok_bind, R.bad_bind, evE, evEs, evAnd, evOr, evS, evSs, asg, asgs, runF, entry, wipeE, Ok.ok_iff, subTy, R.bind_assoc, forL, asgs, of_some, litD_f, litD_t, bin_add, bin_sub, bin_band, cmp_lti, cmp_lts, cmp_le, cmp_gt, cmp_ge, cmp_none, cmp_nnone, cmp_true, cmp_ntrue, ofB_some, cmp_in, cmp_nin, nonD_non, nonD_s, nonD_t, nonD_i, nonD_l, nonD_r, nonD_b, deref_s, deref_t, deref_l, deref_i, deref_b, deref_n, ok_s, ok_i, ok_b, ok_n, mem_s, flat_s, flat_i, flat_b, flat_n, ix_s, ix_t, ix_l, items_t, items_l, len_s, len_t2, len_t4, len_l, tuple_s, tuple_t, tuple_l, list_s, list_t, list_l, blt_max, blt_min, blt_all, blt_any, ty_s, ty_t, ty_l, ty_i, ty_b, ty_n, rec_join, rec_idx, rec_idxT, tupOnly_t, blt_int1, it_s, it_t, it_l, compI_sq, forI_sq, bind1, rev_s, rev_t, rev_l, blt_inrg, blt_ninrg, rec_upr, bind2, sl_t, sl_s, sl_l, part_i, eq_ss, eq_ii, eq_bb, eq_tn, eq_tc, eq_tc0, eq_t0c, in_nil, in_cons, in_strs, in_sgn, flat_map, all_true, cmp_eq_ii, cmp_eq_ss, cmp_eq_bb, cmp_ne_ii, cmp_ne_ss, bin_shrn, mem_strs, mem_strl, atI_0, atI_1, atI_2, atI_3, atI_n, atI_n1, h1, h2]
theorem fmod_pos {a b : Int} (h : 0 < b) : 0 ≤ a.fmod b ∧ a.fmod b < b := by
  rw [Int.fmod_eq_emod_of_nonneg a (by omega)]
  exact ⟨Int.emod_nonneg _ (by omega), Int.emod_lt_of_pos _ h⟩
def T60 : Int := 1000000000000000000000000000000000000000000000000000000000000
theorem T60_log : T60.natAbs.log2 = 199 := by decide +kernel
theorem T60_pos : 0 < T60 := by decide +kernel
theorem pow60 {S : Store} : binD .pow (.int 10) (.int 60) S = .ok (.int T60, S) := by
  rw [bin_pow, if_pos (by decide +kernel)]
  have : (10 : Int) ^ (60 : Int).toNat = T60 := by decide +kernel
  rw [this]
theorem mul_ok {S : Store} {a b : Int} (h1 : a.natAbs.log2 ≤ 10000000) (h2 : b.natAbs.log2 ≤ 10000000) : binD .mul (.int a) (.int b) S = .ok (.int (a * b), S) := by
  rw [bin_mul, if_pos (by omega)]
theorem log_lt {a b : Int} (h0 : 0 ≤ a) (h : a < b) : a.natAbs.log2 ≤ b.natAbs.log2 := by
  by_cases ha : a.natAbs = 0
  · rw [ha]
    have : Nat.log2 0 = 0 := by decide +kernel
    omega
  · rw [Nat.le_log2 (by omega)]
    have := Nat.log2_self_le ha
    omega
theorem e_mixed {k : Nat} {S : Store} {z : Int} (h : z.natAbs.log2 ≤ 1048576) : Ok (callF pg (k + 1) "_law_mixed" [.int z] S) fun p => ∃ r : Int, 0 ≤ r ∧ r < T60 ∧ p.1 = .int r ∧ p.2 = S := by
  rw [callF_s fn_c_law_mixed]
  have hb : (262406895267124108351839057402211873468251940277165213587343 : Int).natAbs.log2 ≤ 10000000 := by decide +kernel
  have hn : T60 ≠ 0 := by have := T60_pos; omega
  simp only [c_law_mixed, len_t, R.ok_bind, R.bad_bind, evE, evEs, evAnd, evOr, evS, evSs, asg, asgs, runF, entry, wipeE, Ok.ok_iff, subTy, R.bind_assoc, forL, asgs, of_some, litD_f, litD_t, bin_add, bin_sub, bin_band, cmp_lti, cmp_lts, cmp_le, cmp_gt, cmp_ge, cmp_none, cmp_nnone, cmp_true, cmp_ntrue, ofB_some, cmp_in, cmp_nin, nonD_non, nonD_s, nonD_t, nonD_i, nonD_l, nonD_r, nonD_b, deref_s, deref_t, deref_l, deref_i, deref_b, deref_n, ok_s, ok_i, ok_b, ok_n, mem_s, flat_s, flat_i, flat_b, flat_n, ix_s, ix_t, ix_l, items_t, items_l, len_s, len_t2, len_t4, len_l, tuple_s, tuple_t, tuple_l, list_s, list_t, list_l, blt_max, blt_min, blt_all, blt_any, ty_s, ty_t, ty_l, ty_i, ty_b, ty_n, rec_join, rec_idx, rec_idxT, tupOnly_t, blt_int1, it_s, it_t, it_l, compI_sq, forI_sq, bind1, rev_s, rev_t, rev_l, blt_inrg, blt_ninrg, rec_upr, bind2, sl_t, sl_s, sl_l, part_i, eq_ss, eq_ii, eq_bb, eq_tn, eq_tc, eq_tc0, eq_t0c, in_nil, in_cons, in_strs, in_sgn, flat_map, all_true, cmp_eq_ii, cmp_eq_ss, cmp_eq_bb, cmp_ne_ii, cmp_ne_ss, bin_shrn, mem_strs, mem_strl, atI_0, atI_1, atI_2, atI_3, List.map, List.getElem?_cons_zero, List.length_cons, List.length_nil, Nat.zero_add, if_true, List.cons_append, mul_ok (show z.natAbs.log2 ≤ 10000000 by omega) hb, pow60, bin_mod, if_neg hn]
  have := fmod_pos (a := z * 262406895267124108351839057402211873468251940277165213587343) T60_pos
  exact ⟨_, this.1, this.2, rfl, trivial⟩
theorem cut_one {A : Type} {xs : List A} (k : Nat) : cut xs (some (k : Int)) (some ((k : Int) + 1)) = (match xs[k]? with | some x => [x] | none => []) := by
  unfold cut
  have e : ((k : Int) + 1) = ((k + 1 : Nat) : Int) := by omega
  rw [e, HT.sIx_nat, HT.sIx_nat]
  by_cases h : k < xs.length
  · have h1 : min k xs.length = k := by omega
    have h2 : min (k + 1) xs.length - k = 1 := by omega
    rw [h1, h2, List.getElem?_eq_getElem h, List.drop_eq_getElem_cons h]
    rfl
  · have h1 : min k xs.length = xs.length := by omega
    rw [h1, List.drop_length, List.getElem?_eq_none (by omega)]
    simp
theorem small_log {a : Int} (h : a.natAbs < 2 ^ 32) : a.natAbs.log2 ≤ 1048576 := by
  by_cases ha : a.natAbs = 0
  · rw [ha]
    have : Nat.log2 0 = 0 := by decide +kernel
    omega
  · have := (Nat.log2_lt ha).mpr h
    omega
theorem cell {ns : List Int} (hz : ∀ z ∈ ns, z.natAbs.log2 ≤ 1048576) (i : Nat) (hi : i ≤ 1001) : ∃ z rest, cut (ns.map D.int) (some (i : Int)) (some ((i : Int) + 1)) ++ [D.int (7919 * (i : Int) + 61)] = .int z :: rest ∧ z.natAbs.log2 ≤ 1048576 ∧ (cut (ns.map D.int) (some (i : Int)) (some ((i : Int) + 1))).length ≤ 1 := by
  rw [cut_one]
  cases e : (ns.map D.int)[i]? with
  | none =>
    exact ⟨7919 * (i : Int) + 61, [], rfl, small_log (by omega), by simp⟩
  | some d =>
    rw [List.getElem?_map] at e
    cases e2 : ns[i]? with
    | none => rw [e2] at e; cases e
    | some z =>
      rw [e2] at e
      cases e
      exact ⟨z, _, rfl, hz z (List.mem_of_getElem? e2), by simp⟩
theorem addl_ok {S : Store} {ds es : List D} (h : ds.length + es.length ≤ 16777216) : binD .add (.lst ds) (.lst es) S = .ok (.lst (ds ++ es), S) := by
  rw [bin_addl, sizeL, if_pos h]
theorem adds_ok {S : Store} {x y : List Char} (h : x.length + y.length ≤ 16777216) : binD .add (.str x) (.str y) S = .ok (.str (x ++ y), S) := by
  rw [bin_adds, sizeL, if_pos h]
theorem addt_ok {S : Store} {ds es : List D} (h : ds.length + es.length ≤ 16777216) : binD .add (.tup ds) (.tup es) S = .ok (.tup (ds ++ es), S) := by
  rw [bin_addt, sizeL, if_pos h]
def packL : S := .fo [3] true .sq [.lst false [.bin .add (.var 1) (.con (.int 1)), .var 1]] [.asg (.nm 2) (.bin .add (.bin .mul (.var 2) (.bin .pow (.con (.int 10)) (.con (.int 60)))) (.call "_law_mixed" [.ix (.bin .add (.sl false (.var 0) true (.var 3) true (.bin .add (.var 3) (.con (.int 1)))) (.lst false [.bin .add (.bin .mul (.con (.int 7919)) (.var 3)) (.con (.int 61))])) (.con (.int 0))]))]
theorem pack_loop {G : Ctx} {S : Store} {ns : List Int} {j : Nat} (hG : ∀ (z : Int) (S : Store), z.natAbs.log2 ≤ 1048576 → Ok (G.call "_law_mixed" [.int z] S) fun p => ∃ r : Int, 0 ≤ r ∧ r < T60 ∧ p.1 = .int r ∧ p.2 = S) (hj : j ≤ 1000) (hz : ∀ z ∈ ns, z.natAbs.log2 ≤ 1048576) : Ok (evS G packL [some (.lst (ns.map .int)), some (.int j), some (.int 0), none] S) fun p => p.1 = .nx ∧ p.2.2 = S ∧ ∃ (N : Int) (x : D), p.2.1 = [some (.lst (ns.map .int)), some (.int j), some (.int N), some x] := by
  have hT := T60_log
  have hP := T60_pos
  have e1 : ((j : Int) + 1) = ((j + 1 : Nat) : Int) := by omega
  obtain ⟨z1, r1, c1, b1, l1⟩ := cell hz (j + 1) (by omega)
  obtain ⟨z2, r2, c2, b2, l2⟩ := cell hz j (by omega)
  rw [← e1] at c1 l1
  have m0 : ∀ S : Store, binD .mul (.int 0) (.int T60) S = .ok (.int 0, S) := fun S => by rw [mul_ok (by decide +kernel) (by omega)]; simp
  have m1 : ∀ S : Store, binD .mul (.int 7919) (.int ((j : Int) + 1)) S = .ok (.int (7919 * ((j : Int) + 1)), S) := fun S => mul_ok (by decide +kernel) (Nat.le_trans (small_log (by omega)) (by omega))
  have m2 : ∀ S : Store, binD .mul (.int 7919) (.int (j : Int)) S = .ok (.int (7919 * (j : Int)), S) := fun S => mul_ok (by decide +kernel) (Nat.le_trans (small_log (by omega)) (by omega))
  have s1 : ∀ (S : Store) (d : D), binD .add (.lst (cut (List.map D.int ns) (some ((j : Int) + 1)) (some ((j : Int) + 1 + 1)))) (.lst [d]) S = .ok (.lst (cut (List.map D.int ns) (some ((j : Int) + 1)) (some ((j : Int) + 1 + 1)) ++ [d]), S) := fun S d => addl_ok (by rw [List.length_singleton]; omega)
  have s2 : ∀ (S : Store) (d : D), binD .add (.lst (cut (List.map D.int ns) (some (j : Int)) (some ((j : Int) + 1)))) (.lst [d]) S = .ok (.lst (cut (List.map D.int ns) (some (j : Int)) (some ((j : Int) + 1)) ++ [d]), S) := fun S d => addl_ok (by rw [List.length_singleton]; omega)
  simp [packL, len_t, R.ok_bind, R.bad_bind, evE, evEs, evAnd, evOr, evS, evSs, asg, asgs, runF, entry, wipeE, Ok.ok_iff, subTy, R.bind_assoc, forL, asgs, of_some, litD_f, litD_t, bin_add, bin_sub, bin_band, cmp_lti, cmp_lts, cmp_le, cmp_gt, cmp_ge, cmp_none, cmp_nnone, cmp_true, cmp_ntrue, ofB_some, cmp_in, cmp_nin, nonD_non, nonD_s, nonD_t, nonD_i, nonD_l, nonD_r, nonD_b, deref_s, deref_t, deref_l, deref_i, deref_b, deref_n, ok_s, ok_i, ok_b, ok_n, mem_s, flat_s, flat_i, flat_b, flat_n, ix_s, ix_t, ix_l, items_t, items_l, len_s, len_t2, len_t4, len_l, tuple_s, tuple_t, tuple_l, list_s, list_t, list_l, blt_max, blt_min, blt_all, blt_any, ty_s, ty_t, ty_l, ty_i, ty_b, ty_n, rec_join, rec_idx, rec_idxT, tupOnly_t, blt_int1, it_s, it_t, it_l, compI_sq, forI_sq, bind1, rev_s, rev_t, rev_l, blt_inrg, blt_ninrg, rec_upr, bind2, sl_t, sl_s, sl_l, part_i, eq_ss, eq_ii, eq_bb, eq_tn, eq_tc, eq_tc0, eq_t0c, in_nil, in_cons, in_strs, in_sgn, flat_map, all_true, cmp_eq_ii, cmp_eq_ss, cmp_eq_bb, cmp_ne_ii, cmp_ne_ss, bin_shrn, mem_strs, mem_strl, atI_0, atI_1, atI_2, atI_3, pow60, m0, m1, m2, s1, s2, c1, c2]
  refine Ok.bind (hG _ _ b1) ?_
  rintro ⟨_, _⟩ ⟨r, h0, h1, rfl, rfl⟩
  have hr : r.natAbs.log2 ≤ 10000000 := Nat.le_trans (log_lt h0 h1) (by omega)
  simp [len_t, R.ok_bind, R.bad_bind, evE, evEs, evAnd, evOr, evS, evSs, asg, asgs, runF, entry, wipeE, Ok.ok_iff, subTy, R.bind_assoc, forL, asgs, of_some, litD_f, litD_t, bin_add, bin_sub, bin_band, cmp_lti, cmp_lts, cmp_le, cmp_gt, cmp_ge, cmp_none, cmp_nnone, cmp_true, cmp_ntrue, ofB_some, cmp_in, cmp_nin, nonD_non, nonD_s, nonD_t, nonD_i, nonD_l, nonD_r, nonD_b, deref_s, deref_t, deref_l, deref_i, deref_b, deref_n, ok_s, ok_i, ok_b, ok_n, mem_s, flat_s, flat_i, flat_b, flat_n, ix_s, ix_t, ix_l, items_t, items_l, len_s, len_t2, len_t4, len_l, tuple_s, tuple_t, tuple_l, list_s, list_t, list_l, blt_max, blt_min, blt_all, blt_any, ty_s, ty_t, ty_l, ty_i, ty_b, ty_n, rec_join, rec_idx, rec_idxT, tupOnly_t, blt_int1, it_s, it_t, it_l, compI_sq, forI_sq, bind1, rev_s, rev_t, rev_l, blt_inrg, blt_ninrg, rec_upr, bind2, sl_t, sl_s, sl_l, part_i, eq_ss, eq_ii, eq_bb, eq_tn, eq_tc, eq_tc0, eq_t0c, in_nil, in_cons, in_strs, in_sgn, flat_map, all_true, cmp_eq_ii, cmp_eq_ss, cmp_eq_bb, cmp_ne_ii, cmp_ne_ss, bin_shrn, mem_strs, mem_strl, atI_0, atI_1, atI_2, atI_3, mul_ok hr (show T60.natAbs.log2 ≤ 10000000 by omega), pow60, m2, s2, c2]
  refine Ok.bind (hG _ _ b2) ?_
  rintro ⟨_, _⟩ ⟨r', h0', h1', rfl, rfl⟩
  simp [len_t, R.ok_bind, R.bad_bind, evE, evEs, evAnd, evOr, evS, evSs, asg, asgs, runF, entry, wipeE, Ok.ok_iff, subTy, R.bind_assoc, forL, asgs, of_some, litD_f, litD_t, bin_add, bin_sub, bin_band, cmp_lti, cmp_lts, cmp_le, cmp_gt, cmp_ge, cmp_none, cmp_nnone, cmp_true, cmp_ntrue, ofB_some, cmp_in, cmp_nin, nonD_non, nonD_s, nonD_t, nonD_i, nonD_l, nonD_r, nonD_b, deref_s, deref_t, deref_l, deref_i, deref_b, deref_n, ok_s, ok_i, ok_b, ok_n, mem_s, flat_s, flat_i, flat_b, flat_n, ix_s, ix_t, ix_l, items_t, items_l, len_s, len_t2, len_t4, len_l, tuple_s, tuple_t, tuple_l, list_s, list_t, list_l, blt_max, blt_min, blt_all, blt_any, ty_s, ty_t, ty_l, ty_i, ty_b, ty_n, rec_join, rec_idx, rec_idxT, tupOnly_t, blt_int1, it_s, it_t, it_l, compI_sq, forI_sq, bind1, rev_s, rev_t, rev_l, blt_inrg, blt_ninrg, rec_upr, bind2, sl_t, sl_s, sl_l, part_i, eq_ss, eq_ii, eq_bb, eq_tn, eq_tc, eq_tc0, eq_t0c, in_nil, in_cons, in_strs, in_sgn, flat_map, all_true, cmp_eq_ii, cmp_eq_ss, cmp_eq_bb, cmp_ne_ii, cmp_ne_ss, bin_shrn, mem_strs, mem_strl, atI_0, atI_1, atI_2, atI_3]
theorem e_pack {k : Nat} {S : Store} {ns : List Int} {j : Nat} (hj : j ≤ 1000) (hz : ∀ z ∈ ns, z.natAbs.log2 ≤ 1048576) : Ok (callF pg (k + 2) "_law_pack" [.lst (ns.map .int), .int j] S) fun p => p.1 = .ref S.length ∧ ∃ N : Int, p.2 = S ++ [.lst [.int N]] := by
  rw [callF_s fn_c_law_pack]
  have e : c_law_pack = ⟨2, 4, [.asg (.nm 2) (.con (.int 0)), packL, .ret (.lst true [.var 2])]⟩ := rfl
  rw [e]
  have e2 : ∀ ρ S, evS ⟨callF pg (k + 1), pg.glo, pg.fuel⟩ (.asg (.nm 2) (.con (.int 0))) ρ S = .ok (.nx, ρ.set 2 (some (.int 0)), S) := fun ρ S => by simp only [len_t, R.ok_bind, R.bad_bind, evE, evEs, evAnd, evOr, evS, evSs, asg, asgs, runF, entry, wipeE, Ok.ok_iff, subTy, R.bind_assoc, forL, asgs, of_some, litD_f, litD_t, bin_add, bin_sub, bin_band, cmp_lti, cmp_lts, cmp_le, cmp_gt, cmp_ge, cmp_none, cmp_nnone, cmp_true, cmp_ntrue, ofB_some, cmp_in, cmp_nin, nonD_non, nonD_s, nonD_t, nonD_i, nonD_l, nonD_r, nonD_b, deref_s, deref_t, deref_l, deref_i, deref_b, deref_n, ok_s, ok_i, ok_b, ok_n, mem_s, flat_s, flat_i, flat_b, flat_n, ix_s, ix_t, ix_l, items_t, items_l, len_s, len_t2, len_t4, len_l, tuple_s, tuple_t, tuple_l, list_s, list_t, list_l, blt_max, blt_min, blt_all, blt_any, ty_s, ty_t, ty_l, ty_i, ty_b, ty_n, rec_join, rec_idx, rec_idxT, tupOnly_t, blt_int1, it_s, it_t, it_l, compI_sq, forI_sq, bind1, rev_s, rev_t, rev_l, blt_inrg, blt_ninrg, rec_upr, bind2, sl_t, sl_s, sl_l, part_i, eq_ss, eq_ii, eq_bb, eq_tn, eq_tc, eq_tc0, eq_t0c, in_nil, in_cons, in_strs, in_sgn, flat_map, all_true, cmp_eq_ii, cmp_eq_ss, cmp_eq_bb, cmp_ne_ii, cmp_ne_ss, bin_shrn, mem_strs, mem_strl, atI_0, atI_1, atI_2, atI_3]
  have e3 : ∀ ρ S N x yy, evS ⟨callF pg (k + 1), pg.glo, pg.fuel⟩ (.ret (.lst true [.var 2])) [ρ, N, some x, yy] S = .ok (.rt (.ref S.length), [ρ, N, some x, yy], S ++ [.lst [x]]) := fun ρ S N x yy => by simp [len_t, R.ok_bind, R.bad_bind, evE, evEs, evAnd, evOr, evS, evSs, asg, asgs, runF, entry, wipeE, Ok.ok_iff, subTy, R.bind_assoc, forL, asgs, of_some, litD_f, litD_t, bin_add, bin_sub, bin_band, cmp_lti, cmp_lts, cmp_le, cmp_gt, cmp_ge, cmp_none, cmp_nnone, cmp_true, cmp_ntrue, ofB_some, cmp_in, cmp_nin, nonD_non, nonD_s, nonD_t, nonD_i, nonD_l, nonD_r, nonD_b, deref_s, deref_t, deref_l, deref_i, deref_b, deref_n, ok_s, ok_i, ok_b, ok_n, mem_s, flat_s, flat_i, flat_b, flat_n, ix_s, ix_t, ix_l, items_t, items_l, len_s, len_t2, len_t4, len_l, tuple_s, tuple_t, tuple_l, list_s, list_t, list_l, blt_max, blt_min, blt_all, blt_any, ty_s, ty_t, ty_l, ty_i, ty_b, ty_n, rec_join, rec_idx, rec_idxT, tupOnly_t, blt_int1, it_s, it_t, it_l, compI_sq, forI_sq, bind1, rev_s, rev_t, rev_l, blt_inrg, blt_ninrg, rec_upr, bind2, sl_t, sl_s, sl_l, part_i, eq_ss, eq_ii, eq_bb, eq_tn, eq_tc, eq_tc0, eq_t0c, in_nil, in_cons, in_strs, in_sgn, flat_map, all_true, cmp_eq_ii, cmp_eq_ss, cmp_eq_bb, cmp_ne_ii, cmp_ne_ss, bin_shrn, mem_strs, mem_strl, atI_0, atI_1, atI_2, atI_3]
  simp only [runF, List.length_cons, List.length_nil, if_true, evSs, e2, R.ok_bind, R.bind_assoc]
  refine Ok.bind (pack_loop (fun z S h => e_mixed h) hj hz) ?_
  rintro ⟨_, _, _⟩ ⟨rfl, rfl, N, x, rfl⟩
  simp [len_t, R.ok_bind, R.bad_bind, evE, evEs, evAnd, evOr, evS, evSs, asg, asgs, runF, entry, wipeE, Ok.ok_iff, subTy, R.bind_assoc, forL, asgs, of_some, litD_f, litD_t, bin_add, bin_sub, bin_band, cmp_lti, cmp_lts, cmp_le, cmp_gt, cmp_ge, cmp_none, cmp_nnone, cmp_true, cmp_ntrue, ofB_some, cmp_in, cmp_nin, nonD_non, nonD_s, nonD_t, nonD_i, nonD_l, nonD_r, nonD_b, deref_s, deref_t, deref_l, deref_i, deref_b, deref_n, ok_s, ok_i, ok_b, ok_n, mem_s, flat_s, flat_i, flat_b, flat_n, ix_s, ix_t, ix_l, items_t, items_l, len_s, len_t2, len_t4, len_l, tuple_s, tuple_t, tuple_l, list_s, list_t, list_l, blt_max, blt_min, blt_all, blt_any, ty_s, ty_t, ty_l, ty_i, ty_b, ty_n, rec_join, rec_idx, rec_idxT, tupOnly_t, blt_int1, it_s, it_t, it_l, compI_sq, forI_sq, bind1, rev_s, rev_t, rev_l, blt_inrg, blt_ninrg, rec_upr, bind2, sl_t, sl_s, sl_l, part_i, eq_ss, eq_ii, eq_bb, eq_tn, eq_tc, eq_tc0, eq_t0c, in_nil, in_cons, in_strs, in_sgn, flat_map, all_true, cmp_eq_ii, cmp_eq_ss, cmp_eq_bb, cmp_ne_ii, cmp_ne_ss, bin_shrn, mem_strs, mem_strl, atI_0, atI_1, atI_2, atI_3]
theorem bits_log {z : Int} (h : Builtin.Int.intBits z ≤ 1048576) : z.natAbs.log2 ≤ 1048576 := by
  unfold Builtin.Int.intBits at h
  split at h
  · rename_i e
    have e : z = 0 := by simpa using e
    subst e
    have : Nat.log2 (0 : Int).natAbs = 0 := by decide +kernel
    omega
  · omega
theorem joinS_sgn : ∀ cs : List Char, joinS [] (cs.map fun c => [c]) = cs
  | [] => rfl
  | [c] => rfl
  | c :: c' :: cs => by
    have := joinS_sgn (c' :: cs)
    simp only [List.map_cons] at this
    simp only [List.map_cons, joinS, this]
    rfl
theorem sum1 : ∀ cs : List Char, ((cs.map fun c => [c]).map List.length).sum = cs.length
  | [] => rfl
  | c :: cs => by
    have := sum1 cs
    simp only [List.map_cons, List.sum_cons, this, List.length_cons, List.length_nil]
    omega
theorem e_is {k : Nat} {S : Store} {a b : Bool} : callF pg (k + 1) "_law_is" [.bl a, .bl b] S = .ok (.bl (a == b), S) := by
  rw [callF_s fn_c_law_is]
  simp [c_law_is, len_t, R.ok_bind, R.bad_bind, evE, evEs, evAnd, evOr, evS, evSs, asg, asgs, runF, entry, wipeE, Ok.ok_iff, subTy, R.bind_assoc, forL, asgs, of_some, litD_f, litD_t, bin_add, bin_sub, bin_band, cmp_lti, cmp_lts, cmp_le, cmp_gt, cmp_ge, cmp_none, cmp_nnone, cmp_true, cmp_ntrue, ofB_some, cmp_in, cmp_nin, nonD_non, nonD_s, nonD_t, nonD_i, nonD_l, nonD_r, nonD_b, deref_s, deref_t, deref_l, deref_i, deref_b, deref_n, ok_s, ok_i, ok_b, ok_n, mem_s, flat_s, flat_i, flat_b, flat_n, ix_s, ix_t, ix_l, items_t, items_l, len_s, len_t2, len_t4, len_l, tuple_s, tuple_t, tuple_l, list_s, list_t, list_l, blt_max, blt_min, blt_all, blt_any, ty_s, ty_t, ty_l, ty_i, ty_b, ty_n, rec_join, rec_idx, rec_idxT, tupOnly_t, blt_int1, it_s, it_t, it_l, compI_sq, forI_sq, bind1, rev_s, rev_t, rev_l, blt_inrg, blt_ninrg, rec_upr, bind2, sl_t, sl_s, sl_l, part_i, eq_ss, eq_ii, eq_bb, eq_tn, eq_tc, eq_tc0, eq_t0c, in_nil, in_cons, in_strs, in_sgn, flat_map, all_true, cmp_eq_ii, cmp_eq_ss, cmp_eq_bb, cmp_ne_ii, cmp_ne_ss, bin_shrn, mem_strs, mem_strl, atI_0, atI_1, atI_2, atI_3]
end Z

set_option Elab.async false
set_option linter.all false
set_option maxRecDepth 100000
set_option maxHeartbeats 4000000
namespace Z
open PySem L2 PySem.Spec PyProof.Rows
theorem fo1 {G : Ctx} {i : Nat} {k : IK} {its : List E} {b : List S} {ρ : Env} {S S' : Store} {xs ds : List D} (h1 : evEs G its ρ S = .ok (xs, S')) (h2 : itrD k xs S' = .ok (.sq ds)) :
    evS G (.fo [i] true k its b) ρ S = forL (fun d ρ s => evSs G b (ρ.set i (some d)) s) ds ρ S' := by
  simp only [evS, h1, h2, R.ok_bind, forI, bind1]
theorem in_get {A : Type} {P : A → Prop} : ∀ {xs : List A} (k : Nat), k < xs.length → (∀ x ∈ xs, P x) → ∃ x, xs[k]? = some x ∧ P x
  | xs, k, h, hp => ⟨xs[k], List.getElem?_eq_getElem h, hp _ (List.getElem_mem h)⟩
theorem Fr1.get {n m : Nat} {S S' : Store} {o : O} (f : Fr1 n S S') (h : S[m]? = some o) (hn : m ≠ n) : S'[m]? = some o := (f.old m hn (List.getElem?_eq_some_iff.mp h).1).trans h

theorem map_sD_inj : ∀ a b : List Char, a.map sD = b.map sD → a = b
  | [], [], _ => rfl
  | [], _ :: _, h => by simp at h
  | _ :: _, [], h => by simp at h
  | x :: a, y :: b, h => by
    simp only [List.map_cons, List.cons.injEq] at h
    have h1 := h.1
    unfold sD at h1
    simp only [D.str.injEq, List.cons.injEq, and_true] at h1
    rw [h1, map_sD_inj a b h.2]
def known5 : List (List Char) := [['s', 't', 'o', 'p'], ['s', 't', 'o', 'p', 's'], ['s'], ['o', 'p', 'e', 'n'], ['a', 'b', 'c', 'd', 'e', 'f', 'g', 'h']]
def bit (r k : Nat) : Bool := decide (Builtin.bitAnd ((r : Int) / 2 ^ k) 1 = 1)
def marksAll (r : Nat) : List (List Char) := sortS (((List.range 5).filter fun k => bit r k).map fun k => known5.getD k [])
def marksOf (r : Nat) : List (List Char) := (marksAll r).take 4
theorem cut4 {A : Type} (xs : List A) : cut xs none (some 4) = xs.take 4 := by
  unfold cut
  show (xs.drop 0).take (HT.sIx xs.length xs.length (some ((4 : Nat) : Int)) - 0) = _
  rw [HT.sIx_nat, List.drop_zero, Nat.sub_zero]
  by_cases h : 4 ≤ xs.length
  · rw [Nat.min_eq_left h]
  · rw [Nat.min_eq_right (by omega), List.take_length, List.take_of_length_le (by omega)]
theorem bits_filter {S : Store} {f : D → Store → R (List D × Store)} {r n : Nat} {g : Nat → D} (h : ∀ k, k < n → f (.int (k : Int)) S = .ok (if bit r k then [g k] else [], S)) : compL f ((List.range n).map fun (j : Nat) => .int (j : Int)) S = .ok (((List.range n).filter fun k => bit r k).map g, S) :=
  compL_filter fun k hk => h k (List.mem_range.mp hk)
theorem len_filter5 (r : Nat) : (((List.range 5).filter fun k => bit r k).map fun k => known5.getD k []).length < 64 := by
  rw [List.length_map]
  have := List.length_filter_le (fun k => bit r k) (List.range 5)
  rw [List.length_range] at this
  omega

def stockB : List Z.S := [.asg (.nm 5) (.call "_law_take" [.var 0, .con (.int 32)]),
      .asg (.nm 6) (.blt false .sorted [.comp false [7] [7] true .rng1 [.con (.int 5)] (.cmp .eq (.bin .band (.bin .shr (.var 5) (.var 7)) (.con (.int 1))) (.con (.int 1))) (.ix (.var 2) (.var 7))]),
      .exp (.mth .append (.var 3) [.tup [.var 4, .blt false .tuple [.sl false (.var 6) false .no true (.con (.int 4))]]])]
def GoodStk (st : Stk) : Prop := st.map (·.1) ∈ [['a'], ['a', 'b'], ['a', 'b', 'c'], ['a', 'e', 'p', 't'], ['m', 'n', 'z']] ∧ ∀ p ∈ st, ∃ r < 32, p.2 = marksOf r
theorem stock_step {k n m0 : Nat} {S : Store} {ss : List Char} {st : Stk} {c : Char} {x5 x6 x7 : Option D} (h : Pk n S) (h0 : S[m0]? = some (.lst (st.map sndD))) (hm : m0 ≠ n) (hl : st.length ≤ 100) :
    Ok (evSs ⟨callF pg (k + 1), pg.glo, pg.fuel⟩ stockB [some (.ref n), some (.str ss), some (.lst (known5.map .str)), some (.ref m0), some (sD c), x5, x6, x7] S) fun p => (p.1 = .nx ∨ p.1 = .ct) ∧
      ∃ r < 32, ∃ S1, Fr1 n S S1 ∧ p.2.2 = S1.set m0 (.lst ((st ++ [(c, marksOf r)]).map sndD)) ∧ ∃ x5 x6 x7, p.2.1 = [some (.ref n), some (.str ss), some (.lst (known5.map .str)), some (.ref m0), some (sD c), x5, x6, x7] := by
  simp [stockB, len_t, R.ok_bind, R.bad_bind, evE, evEs, evAnd, evOr, evS, evSs, asg, asgs, runF, entry, wipeE, Ok.ok_iff, subTy, R.bind_assoc, forL, asgs, of_some, litD_f, litD_t, bin_add, bin_sub, bin_band, cmp_lti, cmp_lts, cmp_le, cmp_gt, cmp_ge, cmp_none, cmp_nnone, cmp_true, cmp_ntrue, ofB_some, cmp_in, cmp_nin, nonD_non, nonD_s, nonD_t, nonD_i, nonD_l, nonD_r, nonD_b, deref_s, deref_t, deref_l, deref_i, deref_b, deref_n, ok_s, ok_i, ok_b, ok_n, mem_s, flat_s, flat_i, flat_b, flat_n, ix_s, ix_t, ix_l, items_t, items_l, len_s, len_t2, len_t4, len_l, tuple_s, tuple_t, tuple_l, list_s, list_t, list_l, blt_max, blt_min, blt_all, blt_any, ty_s, ty_t, ty_l, ty_i, ty_b, ty_n, rec_join, rec_idx, rec_idxT, tupOnly_t, blt_int1, it_s, it_t, it_l, compI_sq, forI_sq, bind1, rev_s, rev_t, rev_l, blt_inrg, blt_ninrg, rec_upr, bind2, sl_t, sl_s, sl_l, part_i, eq_ss, eq_ii, eq_bb, eq_tn, eq_tc, eq_tc0, eq_t0c, in_nil, in_cons, in_strs, in_sgn, flat_map, all_true, cmp_eq_ii, cmp_eq_ss, cmp_eq_bb, cmp_ne_ii, cmp_ne_ss, bin_shrn, mem_strs, mem_strl, atI_0, atI_1, atI_2, atI_3]
  refine Ok.bind (e_take h (by decide) (by decide)) ?_
  rintro ⟨_, S1⟩ ⟨r, h1, rfl, f1⟩
  have hr : r < 32 := by omega
  have g1 := f1.get h0 hm
  simp [len_t, R.ok_bind, R.bad_bind, evE, evEs, evAnd, evOr, evS, evSs, asg, asgs, runF, entry, wipeE, Ok.ok_iff, subTy, R.bind_assoc, forL, asgs, of_some, litD_f, litD_t, bin_add, bin_sub, bin_band, cmp_lti, cmp_lts, cmp_le, cmp_gt, cmp_ge, cmp_none, cmp_nnone, cmp_true, cmp_ntrue, ofB_some, cmp_in, cmp_nin, nonD_non, nonD_s, nonD_t, nonD_i, nonD_l, nonD_r, nonD_b, deref_s, deref_t, deref_l, deref_i, deref_b, deref_n, ok_s, ok_i, ok_b, ok_n, mem_s, flat_s, flat_i, flat_b, flat_n, ix_s, ix_t, ix_l, items_t, items_l, len_s, len_t2, len_t4, len_l, tuple_s, tuple_t, tuple_l, list_s, list_t, list_l, blt_max, blt_min, blt_all, blt_any, ty_s, ty_t, ty_l, ty_i, ty_b, ty_n, rec_join, rec_idx, rec_idxT, tupOnly_t, blt_int1, it_s, it_t, it_l, compI_sq, forI_sq, bind1, rev_s, rev_t, rev_l, blt_inrg, blt_ninrg, rec_upr, bind2, sl_t, sl_s, sl_l, part_i, eq_ss, eq_ii, eq_bb, eq_tn, eq_tc, eq_tc0, eq_t0c, in_nil, in_cons, in_strs, in_sgn, flat_map, all_true, cmp_eq_ii, cmp_eq_ss, cmp_eq_bb, cmp_ne_ii, cmp_ne_ss, bin_shrn, mem_strs, mem_strl, atI_0, atI_1, atI_2, atI_3]
  rw [it_r1i (by decide) (by decide)]
  simp [len_t, R.ok_bind, R.bad_bind, evE, evEs, evAnd, evOr, evS, evSs, asg, asgs, runF, entry, wipeE, Ok.ok_iff, subTy, R.bind_assoc, forL, asgs, of_some, litD_f, litD_t, bin_add, bin_sub, bin_band, cmp_lti, cmp_lts, cmp_le, cmp_gt, cmp_ge, cmp_none, cmp_nnone, cmp_true, cmp_ntrue, ofB_some, cmp_in, cmp_nin, nonD_non, nonD_s, nonD_t, nonD_i, nonD_l, nonD_r, nonD_b, deref_s, deref_t, deref_l, deref_i, deref_b, deref_n, ok_s, ok_i, ok_b, ok_n, mem_s, flat_s, flat_i, flat_b, flat_n, ix_s, ix_t, ix_l, items_t, items_l, len_s, len_t2, len_t4, len_l, tuple_s, tuple_t, tuple_l, list_s, list_t, list_l, blt_max, blt_min, blt_all, blt_any, ty_s, ty_t, ty_l, ty_i, ty_b, ty_n, rec_join, rec_idx, rec_idxT, tupOnly_t, blt_int1, it_s, it_t, it_l, compI_sq, forI_sq, bind1, rev_s, rev_t, rev_l, blt_inrg, blt_ninrg, rec_upr, bind2, sl_t, sl_s, sl_l, part_i, eq_ss, eq_ii, eq_bb, eq_tn, eq_tc, eq_tc0, eq_t0c, in_nil, in_cons, in_strs, in_sgn, flat_map, all_true, cmp_eq_ii, cmp_eq_ss, cmp_eq_bb, cmp_ne_ii, cmp_ne_ss, bin_shrn, mem_strs, mem_strl, atI_0, atI_1, atI_2, atI_3]
  rw [show List.map (fun (j : Nat) => D.int (j : Int)) (List.range 5) = ((List.range 5).map fun (j : Nat) => .int (j : Int)) from rfl, bits_filter (r := r) (g := fun k => .str (known5.getD k [])) fun k hk => ?_]
  · have e : (List.map (fun k => D.str (known5.getD k [])) (List.filter (fun k => bit r k) (List.range 5))) = (((List.range 5).filter fun k => bit r k).map fun k => known5.getD k []).map D.str := by rw [List.map_map]; rfl
    have el : (st.map sndD).length < sizeLine := by rw [List.length_map, sizeL]; omega
    have g1 : S1[m0]? = some (.lst (st.map sndD)) := g1
    simp only [e, len_t, R.ok_bind, R.bad_bind, evE, evEs, evAnd, evOr, evS, evSs, asg, asgs, runF, entry, wipeE, Ok.ok_iff, subTy, R.bind_assoc, forL, asgs, of_some, litD_f, litD_t, bin_add, bin_sub, bin_band, cmp_lti, cmp_lts, cmp_le, cmp_gt, cmp_ge, cmp_none, cmp_nnone, cmp_true, cmp_ntrue, ofB_some, cmp_in, cmp_nin, nonD_non, nonD_s, nonD_t, nonD_i, nonD_l, nonD_r, nonD_b, deref_s, deref_t, deref_l, deref_i, deref_b, deref_n, ok_s, ok_i, ok_b, ok_n, mem_s, flat_s, flat_i, flat_b, flat_n, ix_s, ix_t, ix_l, items_t, items_l, len_s, len_t2, len_t4, len_l, tuple_s, tuple_t, tuple_l, list_s, list_t, list_l, blt_max, blt_min, blt_all, blt_any, ty_s, ty_t, ty_l, ty_i, ty_b, ty_n, rec_join, rec_idx, rec_idxT, tupOnly_t, blt_int1, it_s, it_t, it_l, compI_sq, forI_sq, bind1, rev_s, rev_t, rev_l, blt_inrg, blt_ninrg, rec_upr, bind2, sl_t, sl_s, sl_l, part_i, eq_ss, eq_ii, eq_bb, eq_tn, eq_tc, eq_tc0, eq_t0c, in_nil, in_cons, in_strs, in_sgn, flat_map, all_true, cmp_eq_ii, cmp_eq_ss, cmp_eq_bb, cmp_ne_ii, cmp_ne_ss, bin_shrn, mem_strs, mem_strl, atI_0, atI_1, atI_2, atI_3, blt_sorted (len_filter5 r), rec_app g1, if_true, mth_app g1 el]
    refine ⟨.inl trivial, r, hr, S1, f1, ?_, _, _, _, rfl⟩
    rw [cut4, ← List.map_take]
    rfl
  · have hk5 : k < known5.length := hk
    by_cases hb : Builtin.bitAnd ((r : Int) / 2 ^ k) 1 = 1 <;> simp [len_t, R.ok_bind, R.bad_bind, evE, evEs, evAnd, evOr, evS, evSs, asg, asgs, runF, entry, wipeE, Ok.ok_iff, subTy, R.bind_assoc, forL, asgs, of_some, litD_f, litD_t, bin_add, bin_sub, bin_band, cmp_lti, cmp_lts, cmp_le, cmp_gt, cmp_ge, cmp_none, cmp_nnone, cmp_true, cmp_ntrue, ofB_some, cmp_in, cmp_nin, nonD_non, nonD_s, nonD_t, nonD_i, nonD_l, nonD_r, nonD_b, deref_s, deref_t, deref_l, deref_i, deref_b, deref_n, ok_s, ok_i, ok_b, ok_n, mem_s, flat_s, flat_i, flat_b, flat_n, ix_s, ix_t, ix_l, items_t, items_l, len_s, len_t2, len_t4, len_l, tuple_s, tuple_t, tuple_l, list_s, list_t, list_l, blt_max, blt_min, blt_all, blt_any, ty_s, ty_t, ty_l, ty_i, ty_b, ty_n, rec_join, rec_idx, rec_idxT, tupOnly_t, blt_int1, it_s, it_t, it_l, compI_sq, forI_sq, bind1, rev_s, rev_t, rev_l, blt_inrg, blt_ninrg, rec_upr, bind2, sl_t, sl_s, sl_l, part_i, eq_ss, eq_ii, eq_bb, eq_tn, eq_tc, eq_tc0, eq_t0c, in_nil, in_cons, in_strs, in_sgn, flat_map, all_true, cmp_eq_ii, cmp_eq_ss, cmp_eq_bb, cmp_ne_ii, cmp_ne_ss, bin_shrn, mem_strs, mem_strl, atI_0, atI_1, atI_2, atI_3, bit, atI_n, hb, hk5]
def stockL : Z.S := .fo [4] true .sq [.var 1] stockB
theorem stock_loop {k n m0 : Nat} {S : Store} {ss : List Char} (h : Pk n S) (h0 : S[m0]? = some (.lst [])) (hm : m0 ≠ n) (hl : ss.length ≤ 100) :
    Ok (evS ⟨callF pg (k + 1), pg.glo, pg.fuel⟩ stockL [some (.ref n), some (.str ss), some (.lst (known5.map .str)), some (.ref m0), none, none, none, none] S) fun p => p.1 = .nx ∧
      ∃ (st : Stk) (S1 : Store), p.2.2 = S1 ∧ Pk n S1 ∧ S.length ≤ S1.length ∧ (∀ m, m ≠ n → m ≠ m0 → m < S.length → S1[m]? = S[m]?) ∧ st.map (·.1) = ss ∧ (∀ p ∈ st, ∃ r < 32, p.2 = marksOf r) ∧ S1[m0]? = some (.lst (st.map sndD)) ∧ ∃ x4 x5 x6 x7, p.2.1 = [some (.ref n), some (.str ss), some (.lst (known5.map .str)), some (.ref m0), x4, x5, x6, x7] := by
  unfold stockL
  rw [fo1 (S' := S) (xs := [.str ss]) (ds := ss.map fun c => .str [c]) (by simp [len_t, R.ok_bind, R.bad_bind, evE, evEs, evAnd, evOr, evS, evSs, asg, asgs, runF, entry, wipeE, Ok.ok_iff, subTy, R.bind_assoc, forL, asgs, of_some, litD_f, litD_t, bin_add, bin_sub, bin_band, cmp_lti, cmp_lts, cmp_le, cmp_gt, cmp_ge, cmp_none, cmp_nnone, cmp_true, cmp_ntrue, ofB_some, cmp_in, cmp_nin, nonD_non, nonD_s, nonD_t, nonD_i, nonD_l, nonD_r, nonD_b, deref_s, deref_t, deref_l, deref_i, deref_b, deref_n, ok_s, ok_i, ok_b, ok_n, mem_s, flat_s, flat_i, flat_b, flat_n, ix_s, ix_t, ix_l, items_t, items_l, len_s, len_t2, len_t4, len_l, tuple_s, tuple_t, tuple_l, list_s, list_t, list_l, blt_max, blt_min, blt_all, blt_any, ty_s, ty_t, ty_l, ty_i, ty_b, ty_n, rec_join, rec_idx, rec_idxT, tupOnly_t, blt_int1, it_s, it_t, it_l, compI_sq, forI_sq, bind1, rev_s, rev_t, rev_l, blt_inrg, blt_ninrg, rec_upr, bind2, sl_t, sl_s, sl_l, part_i, eq_ss, eq_ii, eq_bb, eq_tn, eq_tc, eq_tc0, eq_t0c, in_nil, in_cons, in_strs, in_sgn, flat_map, all_true, cmp_eq_ii, cmp_eq_ss, cmp_eq_bb, cmp_ne_ii, cmp_ne_ss, bin_shrn, mem_strs, mem_strl, atI_0, atI_1, atI_2, atI_3]) it_s]
  have := forL_inv (f := fun d ρ s => evSs ⟨callF pg (k + 1), pg.glo, pg.fuel⟩ stockB (ρ.set 4 (some d)) s)
    (fun pre ρ S1 => ∃ st : Stk, pre = (st.map (·.1)).map sD ∧ Pk n S1 ∧ S.length ≤ S1.length ∧ (∀ m, m ≠ n → m ≠ m0 → m < S.length → S1[m]? = S[m]?) ∧ (∀ p ∈ st, ∃ r < 32, p.2 = marksOf r) ∧ S1[m0]? = some (.lst (st.map sndD)) ∧ ∃ x4 x5 x6 x7, ρ = [some (.ref n), some (.str ss), some (.lst (known5.map .str)), some (.ref m0), x4, x5, x6, x7])
    (all := ss.map fun c => .str [c]) (ρ := [some (.ref n), some (.str ss), some (.lst (known5.map .str)), some (.ref m0), none, none, none, none]) (S := S) ⟨[], rfl, h, Nat.le_refl _, fun _ _ _ _ => rfl, fun _ h => (nomatch h), h0, _, _, _, _, rfl⟩ ?_
  · refine this.mono ?_
    rintro ⟨a, b, c⟩ ⟨e, st, e1, h1, h2, h3, h4, h5, h7⟩
    refine ⟨e, st, c, rfl, h1, h2, h3, ?_, h4, h5, h7⟩
    have : ss.map sD = (st.map (·.1)).map sD := e1
    exact (map_sD_inj _ _ this).symm
  · rintro pre d post _ S1 e ⟨st, rfl, h1, h2, h3, h4, h5, x4, x5, x6, x7, rfl⟩
    have el := congrArg List.length e
    simp only [List.length_map, List.length_append, List.length_cons] at el
    have hd : d ∈ ss.map fun c => D.str [c] := by rw [e]; simp
    obtain ⟨c, _, rfl⟩ := List.mem_map.mp hd
    refine (stock_step (c := c) (st := st) h1 h5 hm (by omega)).mono ?_
    rintro ⟨a, b, _⟩ ⟨q, r, hr, S2, f2, rfl, x5, x6, x7, rfl⟩
    have hl2 : m0 < S2.length := Nat.lt_of_lt_of_le (List.getElem?_eq_some_iff.mp h5).1 f2.len
    refine ⟨q, st ++ [(c, marksOf r)], by simp [sD], ?_, ?_, ?_, ?_, ?_, _, _, _, _, rfl⟩
    · obtain ⟨N, hN⟩ := f2.pk
      exact ⟨N, by show (S2.set m0 _)[n]? = _; rw [List.getElem?_set_ne hm]; exact hN⟩
    · show _ ≤ (S2.set m0 _).length
      rw [List.length_set]
      exact Nat.le_trans h2 f2.len
    · intro m a b c
      show (S2.set m0 _)[m]? = _
      rw [List.getElem?_set_ne (Ne.symm b), f2.old m a (Nat.lt_of_lt_of_le c h2)]
      exact h3 m a b c
    · intro p hp
      rcases List.mem_append.mp hp with hp | hp
      · exact h4 p hp
      · rw [List.mem_singleton.mp hp]
        exact ⟨r, hr, rfl⟩
    · show (S2.set m0 _)[m0]? = _
      rw [List.getElem?_set_self hl2]
end Z

set_option Elab.async false
set_option linter.all false
set_option maxRecDepth 100000
set_option maxHeartbeats 4000000
namespace Z
open PySem L2 PySem.Spec PyProof.Rows
theorem ltS_trans : ∀ {a b c : List Char}, ltS a b = true → ltS b c = true → ltS a c = true
  | [], [], _, h, _ => by simp [ltS] at h
  | [], _ :: _, [], _, h => by simp [ltS] at h
  | [], _ :: _, _ :: _, _, _ => by simp [ltS]
  | _ :: _, [], _, h, _ => by simp [ltS] at h
  | _ :: _, _ :: _, [], _, h => by simp [ltS] at h
  | x :: a, y :: b, z :: c, h1, h2 => by
    have ih := @ltS_trans a b c
    unfold ltS at h1 h2 ⊢
    split at h1
    · split at h2
      · rw [if_pos (by omega)]
      · split at h2
        · cases h2
        · rw [if_pos (by omega)]
    · split at h1
      · cases h1
      · split at h2
        · rw [if_pos (by omega)]
        · split at h2
          · cases h2
          · rw [if_neg (by omega), if_neg (by omega)]
            exact ih h1 h2
theorem ltS_total : ∀ {a b : List Char}, a ≠ b → ltS a b = true ∨ ltS b a = true
  | [], [], h => absurd rfl h
  | [], _ :: _, _ => .inl rfl
  | _ :: _, [], _ => .inr rfl
  | x :: a, y :: b, h => by
    unfold ltS
    by_cases h1 : x.toNat < y.toNat
    · exact .inl (by rw [if_pos h1])
    · by_cases h2 : y.toNat < x.toNat
      · exact .inr (by rw [if_pos h2])
      · have e : x = y := Char.toNat_inj.mp (by omega)
        subst e
        have : a ≠ b := fun e => h (by rw [e])
        simp only [Nat.lt_irrefl, if_false]
        exact ltS_total this
theorem ltS_irr : ∀ a : List Char, ltS a a = false
  | [] => rfl
  | x :: a => by
    unfold ltS
    simp only [Nat.lt_irrefl, if_false]
    exact ltS_irr a
def Rise (xs : List (List Char)) : Prop := List.Pairwise (fun a b => ltS a b = true) xs
theorem insS_rise (x : List Char) : ∀ ys, Rise ys → x ∉ ys → Rise (insS x ys)
  | [], _, _ => List.pairwise_singleton _ _
  | y :: ys, h, hx => by
    unfold insS
    have h' := List.pairwise_cons.mp h
    split
    · rename_i c
      have hxy : ltS x y = true := by
        rcases ltS_total (a := x) (b := y) (fun e => hx (by rw [e]; simp)) with q | q
        · exact q
        · unfold leS at c
          rw [q] at c
          cases c
      refine List.pairwise_cons.mpr ⟨fun z hz => ?_, h⟩
      rcases List.mem_cons.mp hz with rfl | hz
      · exact hxy
      · exact ltS_trans hxy (h'.1 z hz)
    · rename_i c
      have hyx : ltS y x = true := by
        unfold leS at c
        simpa using c
      refine List.pairwise_cons.mpr ⟨fun z hz => ?_, insS_rise x ys h'.2 fun q => hx (by simp [q])⟩
      have := (insS_perm x ys).mem_iff.mp hz
      rcases List.mem_cons.mp this with rfl | hz
      · exact hyx
      · exact h'.1 z hz
theorem sortS_rise : ∀ xs : List (List Char), xs.Nodup → Rise (sortS xs)
  | [], _ => List.Pairwise.nil
  | x :: xs, h => by
    have h' := List.nodup_cons.mp h
    exact insS_rise x (sortS xs) (sortS_rise xs h'.2) fun q => h'.1 ((sortS_perm xs).mem_iff.mp q)
theorem risB_true {xs : List (List Char)} (h : Rise xs) : risB xs = true := by
  unfold risB
  rw [List.all_eq_true]
  intro k hk
  have hk := List.mem_range.mp hk
  have h1 : k < xs.length := by omega
  have h2 : k + 1 < xs.length := by omega
  have := List.pairwise_iff_getElem.mp h k (k + 1) h1 h2 (by omega)
  simpa [List.getD, h1, h2] using this

/-! signs -/
def sgnD : Option (List Char) → D
  | none => .non
  | some cs => .tup (cs.map sD)
def GoodSg (ss : List Char) (sg : Option (List Char)) : Prop := ∀ cs, sg = some cs → cs ≠ [] ∧ List.Sublist cs ('#' :: ss)
theorem bit_some : ∀ L, L ≤ 4 → ∀ m, m < 2 ^ (L + 1) → 0 < m → ((List.range (L + 1)).filter fun k => bit m k) ≠ [] := by decide +kernel
end Z

set_option Elab.async false
set_option linter.all false
set_option maxRecDepth 100000
set_option maxHeartbeats 4000000
namespace Z
open PySem L2 PySem.Spec PyProof.Rows
/-! changes -/
abbrev Kv := List (List Char × List Char)
def kD (p : List Char × List Char) : D := .str p.1
def vD (p : List Char × List Char) : D := .str p.2
def chD (p : List Char × List Char) : D := .tup [.str p.1, .str p.2]
def put (kv : Kv) (a b : List Char) : Kv := if a ∈ kv.map (·.1) then kv.map fun p => if p.1 = a then (p.1, b) else p else kv ++ [(a, b)]
def look (kv : Kv) (a : List Char) : List Char := (kv.lookup a).getD []
theorem inD_keys {kv : Kv} {a : List Char} : inD (.str a) (kv.map kD) = decide (a ∈ kv.map (·.1)) := by
  have : kv.map kD = (kv.map (·.1)).map .str := by rw [List.map_map]; rfl
  rw [this, in_strs]
theorem putV_map {a b : List Char} : ∀ kv : Kv, putV (.str a) (.str b) (kv.map kD) (kv.map vD) = (kv.map fun p => if p.1 = a then (p.1, b) else p).map vD
  | [] => rfl
  | p :: kv => by
    simp only [List.map_cons, putV, putV_map kv]
    congr 1
    unfold kD
    rw [eq_ss]
    by_cases h : p.1 = a
    · rw [decide_eq_true h, if_pos h]; rfl
    · rw [decide_eq_false h, if_neg h]; rfl
theorem putK_map {kv : Kv} {a b : List Char} : putK (kv.map kD) (kv.map vD) (.str a) (.str b) = ((put kv a b).map kD, (put kv a b).map vD) := by
  unfold putK put
  rw [inD_keys]
  by_cases h : a ∈ kv.map (·.1)
  · rw [decide_eq_true h, if_pos h, if_pos rfl, putV_map]
    congr 1
    rw [List.map_map]
    apply List.map_congr_left
    intro p _
    show kD p = kD (if p.1 = a then (p.1, b) else p)
    split <;> rfl
  · rw [decide_eq_false h, if_neg h, if_neg (by decide), List.map_append, List.map_append]
    rfl
theorem keys_ok {kv : Kv} : (kv.map kD).all keyOk = true := by
  rw [List.all_eq_true]
  intro d hd
  obtain ⟨p, _, rfl⟩ := List.mem_map.mp hd
  rfl
theorem sub_dct {S : Store} {m : Nat} {kv : Kv} {a b : List Char} (h : S[m]? = some (.dct (kv.map kD) (kv.map vD))) (hl : kv.length ≤ 1000) : subD (.ref m) (.str a) (.str b) S = .ok (S.set m (.dct ((put kv a b).map kD) ((put kv a b).map vD))) := by
  simp only [subD, h]
  rw [if_pos ⟨rfl, keys_ok, by rw [List.length_map, sizeL]; omega⟩, putK_map]
theorem findK_look : ∀ {kv : Kv} {a : List Char}, a ∈ kv.map (·.1) → findK (kv.map kD) (kv.map vD) (.str a) = some (.str (look kv a)) ∧ (a, look kv a) ∈ kv
  | [], _, h => by simp at h
  | (x, y) :: kv, a, h => by
    simp only [List.map_cons, findK]
    unfold kD
    rw [eq_ss]
    by_cases e : x = a
    · subst e
      rw [decide_eq_true rfl, if_pos rfl]
      have : look ((x, y) :: kv) x = y := by simp [look]
      rw [this]
      exact ⟨rfl, by simp⟩
    · rw [decide_eq_false e, if_neg (by decide)]
      have h' : a ∈ kv.map (·.1) := by
        simp only [List.map_cons, List.mem_cons] at h
        rcases h with h | h
        · exact absurd h.symm e
        · exact h
      have : look ((x, y) :: kv) a = look kv a := by
        unfold look
        rw [List.lookup_cons]
        have : (a == x) = false := by simpa using fun q : a = x => e q.symm
        rw [this]
      rw [this]
      have ih := findK_look (kv := kv) h'
      exact ⟨ih.1, List.mem_cons_of_mem _ ih.2⟩
theorem ix_dct {S : Store} {m : Nat} {kv : Kv} {a : List Char} (h : S[m]? = some (.dct (kv.map kD) (kv.map vD))) (ha : a ∈ kv.map (·.1)) : ixD (.ref m) (.str a) S = .ok (.str (look kv a), S) := by
  simp only [ixD, h]
  rw [if_pos ⟨rfl, keys_ok⟩, (findK_look ha).1]
theorem sorted_dct {S : Store} {m : Nat} {kv : Kv} (h : S[m]? = some (.dct (kv.map kD) (kv.map vD))) (hl : kv.length < 64) : bltD false .sorted [.ref m] S = .ok (.lst ((sortS (kv.map (·.1))).map .str), S) := by
  have e : kv.map kD = (kv.map (·.1)).map .str := by rw [List.map_map]; rfl
  simp only [bltD, items, h, e, allStr_map]
  rw [if_pos (by rw [List.length_map]; exact hl)]
  rfl
def GoodP (ss : List Char) (p : List Char × List Char) : Prop := (∃ c ∈ ss, p.1 = [c]) ∧ p.1 ≠ p.2 ∧ (p.2 = [] ∨ ∃ c ∈ ss, p.2 = [c])
structure GoodKv (ss : List Char) (kv : Kv) : Prop where
  nd : (kv.map (·.1)).Nodup
  ok : ∀ p ∈ kv, GoodP ss p
theorem put_good {ss : List Char} {kv : Kv} {a b : List Char} (g : GoodKv ss kv) (h : GoodP ss (a, b)) : GoodKv ss (put kv a b) ∧ (put kv a b).length ≤ kv.length + 1 ∧ put kv a b ≠ [] := by
  unfold put
  split
  · rename_i ha
    refine ⟨⟨?_, fun p hp => ?_⟩, by simp, fun e => ?_⟩
    · rw [List.map_map]
      have : ((fun p : List Char × List Char => p.1) ∘ fun p => if p.1 = a then (p.1, b) else p) = fun p => p.1 := by
        funext p
        show (if p.1 = a then (p.1, b) else p).1 = p.1
        split <;> rfl
      rw [this]
      exact g.nd
    · obtain ⟨q, hq, rfl⟩ := List.mem_map.mp hp
      split
      · rename_i e
        rw [e]
        exact h
      · exact g.ok q hq
    · have := List.map_eq_nil_iff.mp e
      rw [this] at ha
      simp at ha
  · rename_i ha
    refine ⟨⟨?_, fun p hp => ?_⟩, by simp, by simp⟩
    · rw [List.map_append, List.nodup_append]
      refine ⟨g.nd, by simp, ?_⟩
      intro x hx y hy e
      simp at hy
      rw [e, hy] at hx
      exact ha hx
    · rcases List.mem_append.mp hp with hp | hp
      · exact g.ok p hp
      · rw [List.mem_singleton.mp hp]
        exact h
def GoodCh (ss : List Char) (ch : Kv) : Prop := (∃ c ∈ ss, ch = [([], [c])]) ∨ ch ≠ [] ∧ ch.length ≤ 4 ∧ Rise (ch.map (·.1)) ∧ ∀ p ∈ ch, GoodP ss p
theorem good_end {ss : List Char} {kv : Kv} (g : GoodKv ss kv) (hl : kv.length ≤ 4) (hn : kv ≠ []) : GoodCh ss ((sortS (kv.map (·.1))).map fun a => (a, look kv a)) := by
  have pm := sortS_perm (kv.map (·.1))
  refine .inr ⟨fun e => ?_, ?_, ?_, fun p hp => ?_⟩
  · have := List.map_eq_nil_iff.mp e
    rw [this] at pm
    have := pm.length_eq
    simp at this
    exact hn (List.length_eq_zero_iff.mp (by omega))
  · rw [List.length_map, pm.length_eq, List.length_map]
    exact hl
  · rw [List.map_map]
    have : ((fun p : List Char × List Char => p.1) ∘ fun a => (a, look kv a)) = id := rfl
    rw [this, List.map_id]
    exact sortS_rise _ g.nd
  · obtain ⟨a, ha, rfl⟩ := List.mem_map.mp hp
    exact g.ok _ (findK_look (pm.mem_iff.mp ha)).2
end Z

set_option Elab.async false
set_option linter.all false
set_option maxRecDepth 100000
set_option maxHeartbeats 4000000
namespace Z
open PySem L2 PySem.Spec PyProof.Rows
def chgB : List Z.S := [.asg (.nm 4) (.ix (.var 1) (.call "_law_take" [.var 0, .blt false .len [.var 1]])),
      .asg (.nm 5) (.comp false [6] [6] true .sq [.bin .add (.blt false .list [.var 1]) (.lst false [.con (.str [])])] (.cmp .ne (.var 6) (.var 4)) (.var 6)),
      .asg (.sub (.var 2) (.var 4)) (.ix (.var 5) (.call "_law_take" [.var 0, .blt false .len [.var 5]]))]
def sx (ss : List Char) : List (List Char) := (ss.map fun c => [c]) ++ [[]]
theorem atI_get {A : Type} {xs : List A} {r : Nat} (h : r < xs.length) : ∃ x ∈ xs, atI xs (r : Int) = some x := by
  rw [atI_n, List.getElem?_eq_getElem h]
  exact ⟨_, List.getElem_mem h, rfl⟩
theorem chg_step {k n m0 : Nat} {S : Store} {ss : List Char} {kv : Kv} {x3 x4 x5 x6 : Option D} (h : Pk n S) (h0 : S[m0]? = some (.dct (kv.map kD) (kv.map vD))) (hm : m0 ≠ n) (hs : 0 < ss.length) (h4 : ss.length ≤ 4) (hl : kv.length ≤ 100) :
    Ok (evSs ⟨callF pg (k + 1), pg.glo, pg.fuel⟩ chgB [some (.ref n), some (.str ss), some (.ref m0), x3, x4, x5, x6] S) fun p => (p.1 = .nx ∨ p.1 = .ct) ∧
      ∃ a b S1, GoodP ss (a, b) ∧ Fr1 n S S1 ∧ p.2.2 = S1.set m0 (.dct ((put kv a b).map kD) ((put kv a b).map vD)) ∧ ∃ x4 x5 x6, p.2.1 = [some (.ref n), some (.str ss), some (.ref m0), x3, x4, x5, x6] := by
  unfold chgB
  refine ss_cons ?_
  simp only [w_okb, w_bb, w_var, w_con, w_glo, w_tup, w_lst, w_dct, w_bin, w_not, w_and, w_or, w_cmp, w_chain, w_ix, w_call, w_blt, w_mth, w_comp, w_sl, w_rev, w_neg, w_nil, w_cons, w_and1, w_and2, w_or1, w_or2, w_asg, w_exp, w_ret, w_anm, w_asub, w_orv, w_dcn0, w_dcn1, w_whl, w_callv, w_wipe1, w_wipe2, Ok.ok_iff, subTy, List.getElem?_cons_zero, List.getElem?_cons_succ, List.set_cons_succ, List.set_cons_zero, if_true, Bool.false_eq_true, if_false, Option.map_some, Bool.not_true, Bool.not_false, Bool.true_or, Bool.or_true, Bool.false_or, Bool.or_false, Bool.true_and, Bool.and_true, Bool.false_and, Bool.and_false, eq_self, decide_true, decide_false, beq_self_eq_true, of_some, litD_f, litD_t, bin_add, bin_sub, bin_band, cmp_lti, cmp_lts, cmp_le, cmp_gt, cmp_ge, cmp_none, cmp_nnone, cmp_true, cmp_ntrue, ofB_some, cmp_in, cmp_nin, nonD_non, nonD_s, nonD_t, nonD_i, nonD_l, nonD_r, nonD_b, deref_s, deref_t, deref_l, deref_i, deref_b, deref_n, ok_s, ok_i, ok_b, ok_n, mem_s, flat_s, flat_i, flat_b, flat_n, ix_s, ix_t, ix_l, items_t, items_l, len_s, len_t2, len_t4, len_l, tuple_s, tuple_t, tuple_l, list_s, list_t, list_l, blt_max, blt_min, blt_all, blt_any, ty_s, ty_t, ty_l, ty_i, ty_b, ty_n, rec_join, rec_idx, rec_idxT, tupOnly_t, blt_int1, it_s, it_t, it_l, compI_sq, forI_sq, bind1, rev_s, rev_t, rev_l, blt_inrg, blt_ninrg, rec_upr, bind2, sl_t, sl_s, sl_l, part_i, eq_ss, eq_ii, eq_bb, eq_tn, eq_tc, eq_tc0, eq_t0c, in_nil, in_cons, in_strs, in_sgn, flat_map, all_true, cmp_eq_ii, cmp_eq_ss, cmp_eq_bb, cmp_ne_ii, cmp_ne_ss, bin_shrn, mem_strs, mem_strl, atI_0, atI_1, atI_2, atI_3]
  refine Ok.bind (e_take h (by omega) (by omega)) ?_
  rintro ⟨_, S1⟩ ⟨r, h1, rfl, f1⟩
  have f1 : Fr1 n S S1 := f1
  obtain ⟨c, hc, ec⟩ := atI_get (xs := ss) (r := r) (by omega)
  simp only [w_okb, w_bb, w_var, w_con, w_glo, w_tup, w_lst, w_dct, w_bin, w_not, w_and, w_or, w_cmp, w_chain, w_ix, w_call, w_blt, w_mth, w_comp, w_sl, w_rev, w_neg, w_nil, w_cons, w_and1, w_and2, w_or1, w_or2, w_asg, w_exp, w_ret, w_anm, w_asub, w_orv, w_dcn0, w_dcn1, w_whl, w_callv, w_wipe1, w_wipe2, Ok.ok_iff, subTy, List.getElem?_cons_zero, List.getElem?_cons_succ, List.set_cons_succ, List.set_cons_zero, if_true, Bool.false_eq_true, if_false, Option.map_some, Bool.not_true, Bool.not_false, Bool.true_or, Bool.or_true, Bool.false_or, Bool.or_false, Bool.true_and, Bool.and_true, Bool.false_and, Bool.and_false, eq_self, decide_true, decide_false, beq_self_eq_true, of_some, litD_f, litD_t, bin_add, bin_sub, bin_band, cmp_lti, cmp_lts, cmp_le, cmp_gt, cmp_ge, cmp_none, cmp_nnone, cmp_true, cmp_ntrue, ofB_some, cmp_in, cmp_nin, nonD_non, nonD_s, nonD_t, nonD_i, nonD_l, nonD_r, nonD_b, deref_s, deref_t, deref_l, deref_i, deref_b, deref_n, ok_s, ok_i, ok_b, ok_n, mem_s, flat_s, flat_i, flat_b, flat_n, ix_s, ix_t, ix_l, items_t, items_l, len_s, len_t2, len_t4, len_l, tuple_s, tuple_t, tuple_l, list_s, list_t, list_l, blt_max, blt_min, blt_all, blt_any, ty_s, ty_t, ty_l, ty_i, ty_b, ty_n, rec_join, rec_idx, rec_idxT, tupOnly_t, blt_int1, it_s, it_t, it_l, compI_sq, forI_sq, bind1, rev_s, rev_t, rev_l, blt_inrg, blt_ninrg, rec_upr, bind2, sl_t, sl_s, sl_l, part_i, eq_ss, eq_ii, eq_bb, eq_tn, eq_tc, eq_tc0, eq_t0c, in_nil, in_cons, in_strs, in_sgn, flat_map, all_true, cmp_eq_ii, cmp_eq_ss, cmp_eq_bb, cmp_ne_ii, cmp_ne_ss, bin_shrn, mem_strs, mem_strl, atI_0, atI_1, atI_2, atI_3, ec]
  refine nx (ss_cons ?_)
  have ea : ∀ S : Store, binD .add (.lst (ss.map fun c => .str [c])) (.lst [.str []]) S = .ok (.lst ((sx ss).map .str), S) := fun S => by
    rw [addl_ok (by rw [List.length_map, List.length_singleton]; omega), sx, List.map_append, List.map_map]
    rfl
  simp only [w_okb, w_bb, w_var, w_con, w_glo, w_tup, w_lst, w_dct, w_bin, w_not, w_and, w_or, w_cmp, w_chain, w_ix, w_call, w_blt, w_mth, w_comp, w_sl, w_rev, w_neg, w_nil, w_cons, w_and1, w_and2, w_or1, w_or2, w_asg, w_exp, w_ret, w_anm, w_asub, w_orv, w_dcn0, w_dcn1, w_whl, w_callv, w_wipe1, w_wipe2, Ok.ok_iff, subTy, List.getElem?_cons_zero, List.getElem?_cons_succ, List.set_cons_succ, List.set_cons_zero, if_true, Bool.false_eq_true, if_false, Option.map_some, Bool.not_true, Bool.not_false, Bool.true_or, Bool.or_true, Bool.false_or, Bool.or_false, Bool.true_and, Bool.and_true, Bool.false_and, Bool.and_false, eq_self, decide_true, decide_false, beq_self_eq_true, of_some, litD_f, litD_t, bin_add, bin_sub, bin_band, cmp_lti, cmp_lts, cmp_le, cmp_gt, cmp_ge, cmp_none, cmp_nnone, cmp_true, cmp_ntrue, ofB_some, cmp_in, cmp_nin, nonD_non, nonD_s, nonD_t, nonD_i, nonD_l, nonD_r, nonD_b, deref_s, deref_t, deref_l, deref_i, deref_b, deref_n, ok_s, ok_i, ok_b, ok_n, mem_s, flat_s, flat_i, flat_b, flat_n, ix_s, ix_t, ix_l, items_t, items_l, len_s, len_t2, len_t4, len_l, tuple_s, tuple_t, tuple_l, list_s, list_t, list_l, blt_max, blt_min, blt_all, blt_any, ty_s, ty_t, ty_l, ty_i, ty_b, ty_n, rec_join, rec_idx, rec_idxT, tupOnly_t, blt_int1, it_s, it_t, it_l, compI_sq, forI_sq, bind1, rev_s, rev_t, rev_l, blt_inrg, blt_ninrg, rec_upr, bind2, sl_t, sl_s, sl_l, part_i, eq_ss, eq_ii, eq_bb, eq_tn, eq_tc, eq_tc0, eq_t0c, in_nil, in_cons, in_strs, in_sgn, flat_map, all_true, cmp_eq_ii, cmp_eq_ss, cmp_eq_bb, cmp_ne_ii, cmp_ne_ss, bin_shrn, mem_strs, mem_strl, atI_0, atI_1, atI_2, atI_3, ea]
  rw [compL_filter (p := fun x => !decide (x = [c])) (g := .str) fun x hx => ?_]
  · have hos : 0 < ((sx ss).filter fun x => !decide (x = [c])).length := by
      apply List.length_pos_of_mem (a := [])
      rw [List.mem_filter]
      exact ⟨by simp [sx], by simp⟩
    have hos2 : ((sx ss).filter fun x => !decide (x = [c])).length ≤ 5 := by
      have := List.length_filter_le (fun x => !decide (x = [c])) (sx ss)
      have e : (sx ss).length = ss.length + 1 := by simp [sx]
      omega
    have hm2 : ∀ b ∈ (sx ss).filter fun x => !decide (x = [c]), GoodP ss ([c], b) := fun b hb => by
      rw [List.mem_filter] at hb
      refine ⟨⟨c, hc, rfl⟩, fun e => ?_, ?_⟩
      · have e : [c] = b := e
        rw [← e] at hb
        simp at hb
      · have := hb.1
        unfold sx at this
        rcases List.mem_append.mp this with q | q
        · obtain ⟨c', q1, q2⟩ := List.mem_map.mp q
          exact .inr ⟨c', q1, q2.symm⟩
        · exact .inl (List.mem_singleton.mp q)
    generalize ((sx ss).filter fun x => !decide (x = [c])) = os at hos hos2 hm2 ⊢
    simp only [w_okb, w_bb, w_var, w_con, w_glo, w_tup, w_lst, w_dct, w_bin, w_not, w_and, w_or, w_cmp, w_chain, w_ix, w_call, w_blt, w_mth, w_comp, w_sl, w_rev, w_neg, w_nil, w_cons, w_and1, w_and2, w_or1, w_or2, w_asg, w_exp, w_ret, w_anm, w_asub, w_orv, w_dcn0, w_dcn1, w_whl, w_callv, w_wipe1, w_wipe2, Ok.ok_iff, subTy, List.getElem?_cons_zero, List.getElem?_cons_succ, List.set_cons_succ, List.set_cons_zero, if_true, Bool.false_eq_true, if_false, Option.map_some, Bool.not_true, Bool.not_false, Bool.true_or, Bool.or_true, Bool.false_or, Bool.or_false, Bool.true_and, Bool.and_true, Bool.false_and, Bool.and_false, eq_self, decide_true, decide_false, beq_self_eq_true, of_some, litD_f, litD_t, bin_add, bin_sub, bin_band, cmp_lti, cmp_lts, cmp_le, cmp_gt, cmp_ge, cmp_none, cmp_nnone, cmp_true, cmp_ntrue, ofB_some, cmp_in, cmp_nin, nonD_non, nonD_s, nonD_t, nonD_i, nonD_l, nonD_r, nonD_b, deref_s, deref_t, deref_l, deref_i, deref_b, deref_n, ok_s, ok_i, ok_b, ok_n, mem_s, flat_s, flat_i, flat_b, flat_n, ix_s, ix_t, ix_l, items_t, items_l, len_s, len_t2, len_t4, len_l, tuple_s, tuple_t, tuple_l, list_s, list_t, list_l, blt_max, blt_min, blt_all, blt_any, ty_s, ty_t, ty_l, ty_i, ty_b, ty_n, rec_join, rec_idx, rec_idxT, tupOnly_t, blt_int1, it_s, it_t, it_l, compI_sq, forI_sq, bind1, rev_s, rev_t, rev_l, blt_inrg, blt_ninrg, rec_upr, bind2, sl_t, sl_s, sl_l, part_i, eq_ss, eq_ii, eq_bb, eq_tn, eq_tc, eq_tc0, eq_t0c, in_nil, in_cons, in_strs, in_sgn, flat_map, all_true, cmp_eq_ii, cmp_eq_ss, cmp_eq_bb, cmp_ne_ii, cmp_ne_ss, bin_shrn, mem_strs, mem_strl, atI_0, atI_1, atI_2, atI_3]
    refine nx (ss_cons ?_)
    simp only [w_okb, w_bb, w_var, w_con, w_glo, w_tup, w_lst, w_dct, w_bin, w_not, w_and, w_or, w_cmp, w_chain, w_ix, w_call, w_blt, w_mth, w_comp, w_sl, w_rev, w_neg, w_nil, w_cons, w_and1, w_and2, w_or1, w_or2, w_asg, w_exp, w_ret, w_anm, w_asub, w_orv, w_dcn0, w_dcn1, w_whl, w_callv, w_wipe1, w_wipe2, Ok.ok_iff, subTy, List.getElem?_cons_zero, List.getElem?_cons_succ, List.set_cons_succ, List.set_cons_zero, if_true, Bool.false_eq_true, if_false, Option.map_some, Bool.not_true, Bool.not_false, Bool.true_or, Bool.or_true, Bool.false_or, Bool.or_false, Bool.true_and, Bool.and_true, Bool.false_and, Bool.and_false, eq_self, decide_true, decide_false, beq_self_eq_true, of_some, litD_f, litD_t, bin_add, bin_sub, bin_band, cmp_lti, cmp_lts, cmp_le, cmp_gt, cmp_ge, cmp_none, cmp_nnone, cmp_true, cmp_ntrue, ofB_some, cmp_in, cmp_nin, nonD_non, nonD_s, nonD_t, nonD_i, nonD_l, nonD_r, nonD_b, deref_s, deref_t, deref_l, deref_i, deref_b, deref_n, ok_s, ok_i, ok_b, ok_n, mem_s, flat_s, flat_i, flat_b, flat_n, ix_s, ix_t, ix_l, items_t, items_l, len_s, len_t2, len_t4, len_l, tuple_s, tuple_t, tuple_l, list_s, list_t, list_l, blt_max, blt_min, blt_all, blt_any, ty_s, ty_t, ty_l, ty_i, ty_b, ty_n, rec_join, rec_idx, rec_idxT, tupOnly_t, blt_int1, it_s, it_t, it_l, compI_sq, forI_sq, bind1, rev_s, rev_t, rev_l, blt_inrg, blt_ninrg, rec_upr, bind2, sl_t, sl_s, sl_l, part_i, eq_ss, eq_ii, eq_bb, eq_tn, eq_tc, eq_tc0, eq_t0c, in_nil, in_cons, in_strs, in_sgn, flat_map, all_true, cmp_eq_ii, cmp_eq_ss, cmp_eq_bb, cmp_ne_ii, cmp_ne_ss, bin_shrn, mem_strs, mem_strl, atI_0, atI_1, atI_2, atI_3, List.length_map]
    refine Ok.bind (e_take f1.pk (by omega) (by omega)) ?_
    rintro ⟨_, S2⟩ ⟨r2, h2, rfl, f2⟩
    have f2 : Fr1 n S1 S2 := f2
    obtain ⟨d, hd, ed⟩ := atI_get (xs := os.map D.str) (r := r2) (by rw [List.length_map]; omega)
    obtain ⟨b, hb, rfl⟩ := List.mem_map.mp hd
    have f := f1.trans f2
    simp only [w_okb, w_bb, w_var, w_con, w_glo, w_tup, w_lst, w_dct, w_bin, w_not, w_and, w_or, w_cmp, w_chain, w_ix, w_call, w_blt, w_mth, w_comp, w_sl, w_rev, w_neg, w_nil, w_cons, w_and1, w_and2, w_or1, w_or2, w_asg, w_exp, w_ret, w_anm, w_asub, w_orv, w_dcn0, w_dcn1, w_whl, w_callv, w_wipe1, w_wipe2, Ok.ok_iff, subTy, List.getElem?_cons_zero, List.getElem?_cons_succ, List.set_cons_succ, List.set_cons_zero, if_true, Bool.false_eq_true, if_false, Option.map_some, Bool.not_true, Bool.not_false, Bool.true_or, Bool.or_true, Bool.false_or, Bool.or_false, Bool.true_and, Bool.and_true, Bool.false_and, Bool.and_false, eq_self, decide_true, decide_false, beq_self_eq_true, of_some, litD_f, litD_t, bin_add, bin_sub, bin_band, cmp_lti, cmp_lts, cmp_le, cmp_gt, cmp_ge, cmp_none, cmp_nnone, cmp_true, cmp_ntrue, ofB_some, cmp_in, cmp_nin, nonD_non, nonD_s, nonD_t, nonD_i, nonD_l, nonD_r, nonD_b, deref_s, deref_t, deref_l, deref_i, deref_b, deref_n, ok_s, ok_i, ok_b, ok_n, mem_s, flat_s, flat_i, flat_b, flat_n, ix_s, ix_t, ix_l, items_t, items_l, len_s, len_t2, len_t4, len_l, tuple_s, tuple_t, tuple_l, list_s, list_t, list_l, blt_max, blt_min, blt_all, blt_any, ty_s, ty_t, ty_l, ty_i, ty_b, ty_n, rec_join, rec_idx, rec_idxT, tupOnly_t, blt_int1, it_s, it_t, it_l, compI_sq, forI_sq, bind1, rev_s, rev_t, rev_l, blt_inrg, blt_ninrg, rec_upr, bind2, sl_t, sl_s, sl_l, part_i, eq_ss, eq_ii, eq_bb, eq_tn, eq_tc, eq_tc0, eq_t0c, in_nil, in_cons, in_strs, in_sgn, flat_map, all_true, cmp_eq_ii, cmp_eq_ss, cmp_eq_bb, cmp_ne_ii, cmp_ne_ss, bin_shrn, mem_strs, mem_strl, atI_0, atI_1, atI_2, atI_3, ed, sub_dct (a := [c]) (b := b) (f.get h0 hm) (by omega)]
    refine nx (ss_nil ⟨.inl rfl, [c], b, S2, hm2 b hb, f, rfl, _, _, _, rfl⟩)
  · by_cases e : x = [c]
    · simp only [w_okb, w_bb, w_var, w_con, w_glo, w_tup, w_lst, w_dct, w_bin, w_not, w_and, w_or, w_cmp, w_chain, w_ix, w_call, w_blt, w_mth, w_comp, w_sl, w_rev, w_neg, w_nil, w_cons, w_and1, w_and2, w_or1, w_or2, w_asg, w_exp, w_ret, w_anm, w_asub, w_orv, w_dcn0, w_dcn1, w_whl, w_callv, w_wipe1, w_wipe2, Ok.ok_iff, subTy, List.getElem?_cons_zero, List.getElem?_cons_succ, List.set_cons_succ, List.set_cons_zero, if_true, Bool.false_eq_true, if_false, Option.map_some, Bool.not_true, Bool.not_false, Bool.true_or, Bool.or_true, Bool.false_or, Bool.or_false, Bool.true_and, Bool.and_true, Bool.false_and, Bool.and_false, eq_self, decide_true, decide_false, beq_self_eq_true, of_some, litD_f, litD_t, bin_add, bin_sub, bin_band, cmp_lti, cmp_lts, cmp_le, cmp_gt, cmp_ge, cmp_none, cmp_nnone, cmp_true, cmp_ntrue, ofB_some, cmp_in, cmp_nin, nonD_non, nonD_s, nonD_t, nonD_i, nonD_l, nonD_r, nonD_b, deref_s, deref_t, deref_l, deref_i, deref_b, deref_n, ok_s, ok_i, ok_b, ok_n, mem_s, flat_s, flat_i, flat_b, flat_n, ix_s, ix_t, ix_l, items_t, items_l, len_s, len_t2, len_t4, len_l, tuple_s, tuple_t, tuple_l, list_s, list_t, list_l, blt_max, blt_min, blt_all, blt_any, ty_s, ty_t, ty_l, ty_i, ty_b, ty_n, rec_join, rec_idx, rec_idxT, tupOnly_t, blt_int1, it_s, it_t, it_l, compI_sq, forI_sq, bind1, rev_s, rev_t, rev_l, blt_inrg, blt_ninrg, rec_upr, bind2, sl_t, sl_s, sl_l, part_i, eq_ss, eq_ii, eq_bb, eq_tn, eq_tc, eq_tc0, eq_t0c, in_nil, in_cons, in_strs, in_sgn, flat_map, all_true, cmp_eq_ii, cmp_eq_ss, cmp_eq_bb, cmp_ne_ii, cmp_ne_ss, bin_shrn, mem_strs, mem_strl, atI_0, atI_1, atI_2, atI_3, e]
      try rfl
    · simp only [w_okb, w_bb, w_var, w_con, w_glo, w_tup, w_lst, w_dct, w_bin, w_not, w_and, w_or, w_cmp, w_chain, w_ix, w_call, w_blt, w_mth, w_comp, w_sl, w_rev, w_neg, w_nil, w_cons, w_and1, w_and2, w_or1, w_or2, w_asg, w_exp, w_ret, w_anm, w_asub, w_orv, w_dcn0, w_dcn1, w_whl, w_callv, w_wipe1, w_wipe2, Ok.ok_iff, subTy, List.getElem?_cons_zero, List.getElem?_cons_succ, List.set_cons_succ, List.set_cons_zero, if_true, Bool.false_eq_true, if_false, Option.map_some, Bool.not_true, Bool.not_false, Bool.true_or, Bool.or_true, Bool.false_or, Bool.or_false, Bool.true_and, Bool.and_true, Bool.false_and, Bool.and_false, eq_self, decide_true, decide_false, beq_self_eq_true, of_some, litD_f, litD_t, bin_add, bin_sub, bin_band, cmp_lti, cmp_lts, cmp_le, cmp_gt, cmp_ge, cmp_none, cmp_nnone, cmp_true, cmp_ntrue, ofB_some, cmp_in, cmp_nin, nonD_non, nonD_s, nonD_t, nonD_i, nonD_l, nonD_r, nonD_b, deref_s, deref_t, deref_l, deref_i, deref_b, deref_n, ok_s, ok_i, ok_b, ok_n, mem_s, flat_s, flat_i, flat_b, flat_n, ix_s, ix_t, ix_l, items_t, items_l, len_s, len_t2, len_t4, len_l, tuple_s, tuple_t, tuple_l, list_s, list_t, list_l, blt_max, blt_min, blt_all, blt_any, ty_s, ty_t, ty_l, ty_i, ty_b, ty_n, rec_join, rec_idx, rec_idxT, tupOnly_t, blt_int1, it_s, it_t, it_l, compI_sq, forI_sq, bind1, rev_s, rev_t, rev_l, blt_inrg, blt_ninrg, rec_upr, bind2, sl_t, sl_s, sl_l, part_i, eq_ss, eq_ii, eq_bb, eq_tn, eq_tc, eq_tc0, eq_t0c, in_nil, in_cons, in_strs, in_sgn, flat_map, all_true, cmp_eq_ii, cmp_eq_ss, cmp_eq_bb, cmp_ne_ii, cmp_ne_ss, bin_shrn, mem_strs, mem_strl, atI_0, atI_1, atI_2, atI_3, e]
      try rfl
def Fo (G : Ctx) (i : Nat) (b : List Z.S) (k : IK) (ρ : Env) (Q : Fl × Env × Store → Prop) (p : List D × Store) : Prop := ∃ ds, itrD k p.1 p.2 = .ok (.sq ds) ∧ Ok (forL (fun d ρ s => evSs G b (ρ.set i (some d)) s) ds ρ p.2) Q
theorem fo_ {G : Ctx} {i : Nat} {b : List Z.S} {k : IK} {ρ : Env} {Q : Fl × Env × Store → Prop} {xs ds : List D} {S : Store} (h1 : itrD k xs S = .ok (.sq ds)) (h2 : Ok (forL (fun d ρ s => evSs G b (ρ.set i (some d)) s) ds ρ S) Q) : Fo G i b k ρ Q (xs, S) := ⟨ds, h1, h2⟩
theorem fo_ok {G : Ctx} {i : Nat} {b : List Z.S} {k : IK} {its : List E} {ρ : Env} {S : Store} {Q : Fl × Env × Store → Prop} (h : Ok (evEs G its ρ S) (Fo G i b k ρ Q)) : Ok (evS G (.fo [i] true k its b) ρ S) Q := by
  obtain ⟨⟨xs, S'⟩, e, ds, h1, h2⟩ := h
  rw [fo1 e h1]
  exact h2
/-! rules -/
structure Rule where
  how : List Char
  ch : Kv
  l : Option (List Char)
  r : Option (List Char)
def ruleD (R : Rule) : D := .tup [.str R.how, .tup (R.ch.map chD), sgnD R.l, sgnD R.r]
def ways : List (List Char) := [['o', 'n', 'c', 'e'], ['a', 'l', 'o', 'n', 'g']]
structure GoodR (ss : List Char) (R : Rule) : Prop where
  how : R.how ∈ ways
  ch : GoodCh ss R.ch
  l : GoodSg ss R.l
  r : GoodSg ss R.r
end Z

set_option Elab.async false
set_option linter.all false
set_option maxRecDepth 100000
set_option maxHeartbeats 4000000
namespace Z
open PySem L2 PySem.Spec PyProof.Rows
local macro_rules
  | `(tactic| wp_walk using $ts,*) => `(tactic| ((try simp only [w_okb, w_bb, w_var, w_con, w_glo, w_tup, w_lst, w_dct, w_bin, w_not, w_and, w_or, w_cmp, w_chain, w_ix, w_call, w_blt, w_mth, w_comp, w_sl, w_rev, w_neg, w_nil, w_cons, w_and1, w_and2, w_or1, w_or2, w_asg, w_exp, w_ret, w_anm, w_asub, w_orv, w_dcn0, w_dcn1, w_whl, w_callv, w_wipe1, w_wipe2, Ok.ok_iff, subTy, List.getElem?_cons_zero, List.getElem?_cons_succ, List.set_cons_succ, List.set_cons_zero, if_true, Bool.false_eq_true, if_false, Option.map_some, Bool.not_true, Bool.not_false, Bool.true_or, Bool.or_true, Bool.false_or, Bool.or_false, Bool.true_and, Bool.and_true, Bool.false_and, Bool.and_false, eq_self, decide_true, decide_false, beq_self_eq_true, of_some, litD_f, litD_t, bin_add, bin_sub, bin_band, cmp_lti, cmp_lts, cmp_le, cmp_gt, cmp_ge, cmp_none, cmp_nnone, cmp_true, cmp_ntrue, ofB_some, cmp_in, cmp_nin, nonD_non, nonD_s, nonD_t, nonD_i, nonD_l, nonD_r, nonD_b, deref_s, deref_t, deref_l, deref_i, deref_b, deref_n, ok_s, ok_i, ok_b, ok_n, mem_s, flat_s, flat_i, flat_b, flat_n, ix_s, ix_t, ix_l, items_t, items_l, len_s, len_t2, len_t4, len_l, tuple_s, tuple_t, tuple_l, list_s, list_t, list_l, blt_max, blt_min, blt_all, blt_any, ty_s, ty_t, ty_l, ty_i, ty_b, ty_n, rec_join, rec_idx, rec_idxT, tupOnly_t, blt_int1, it_s, it_t, it_l, compI_sq, forI_sq, bind1, rev_s, rev_t, rev_l, blt_inrg, blt_ninrg, rec_upr, bind2, sl_t, sl_s, sl_l, part_i, eq_ss, eq_ii, eq_bb, eq_tn, eq_tc, eq_tc0, eq_t0c, in_nil, in_cons, in_strs, in_sgn, flat_map, all_true, cmp_eq_ii, cmp_eq_ss, cmp_eq_bb, cmp_ne_ii, cmp_ne_ss, bin_shrn, mem_strs, mem_strl, atI_0, atI_1, atI_2, atI_3, $[$ts:term],*]); repeat' (first | (with_reducible refine nx ?_) | (with_reducible refine nrt ?_) | (with_reducible refine rt ?_) | (with_reducible refine i_t ?_) | (with_reducible refine i_f ?_) | (with_reducible refine ss_nil ?_) | (with_reducible refine ss_cons (ite_ok ?_)) | (with_reducible refine ss_cons (fo_ok ?_)) | (with_reducible refine ss_cons ?_) | ((first | (with_reducible refine okE ?_) | (with_reducible refine okS ?_) | (with_reducible refine okEs ?_)); simp only [w_okb, w_bb, w_var, w_con, w_glo, w_tup, w_lst, w_dct, w_bin, w_not, w_and, w_or, w_cmp, w_chain, w_ix, w_call, w_blt, w_mth, w_comp, w_sl, w_rev, w_neg, w_nil, w_cons, w_and1, w_and2, w_or1, w_or2, w_asg, w_exp, w_ret, w_anm, w_asub, w_orv, w_dcn0, w_dcn1, w_whl, w_callv, w_wipe1, w_wipe2, Ok.ok_iff, subTy, List.getElem?_cons_zero, List.getElem?_cons_succ, List.set_cons_succ, List.set_cons_zero, if_true, Bool.false_eq_true, if_false, Option.map_some, Bool.not_true, Bool.not_false, Bool.true_or, Bool.or_true, Bool.false_or, Bool.or_false, Bool.true_and, Bool.and_true, Bool.false_and, Bool.and_false, eq_self, decide_true, decide_false, beq_self_eq_true, of_some, litD_f, litD_t, bin_add, bin_sub, bin_band, cmp_lti, cmp_lts, cmp_le, cmp_gt, cmp_ge, cmp_none, cmp_nnone, cmp_true, cmp_ntrue, ofB_some, cmp_in, cmp_nin, nonD_non, nonD_s, nonD_t, nonD_i, nonD_l, nonD_r, nonD_b, deref_s, deref_t, deref_l, deref_i, deref_b, deref_n, ok_s, ok_i, ok_b, ok_n, mem_s, flat_s, flat_i, flat_b, flat_n, ix_s, ix_t, ix_l, items_t, items_l, len_s, len_t2, len_t4, len_l, tuple_s, tuple_t, tuple_l, list_s, list_t, list_l, blt_max, blt_min, blt_all, blt_any, ty_s, ty_t, ty_l, ty_i, ty_b, ty_n, rec_join, rec_idx, rec_idxT, tupOnly_t, blt_int1, it_s, it_t, it_l, compI_sq, forI_sq, bind1, rev_s, rev_t, rev_l, blt_inrg, blt_ninrg, rec_upr, bind2, sl_t, sl_s, sl_l, part_i, eq_ss, eq_ii, eq_bb, eq_tn, eq_tc, eq_tc0, eq_t0c, in_nil, in_cons, in_strs, in_sgn, flat_map, all_true, cmp_eq_ii, cmp_eq_ss, cmp_eq_bb, cmp_ne_ii, cmp_ne_ss, bin_shrn, mem_strs, mem_strl, atI_0, atI_1, atI_2, atI_3, $[$ts:term],*]))))
  | `(tactic| wp_walk) => `(tactic| wp_walk using w_nil)
def Fp (G : Ctx) (i j : Nat) (b : List Z.S) (k : IK) (ρ : Env) (Q : Fl × Env × Store → Prop) (p : List D × Store) : Prop := ∃ ds, itrD k p.1 p.2 = .ok (.sq ds) ∧ Ok (forL (fun d ρ s => (bindG [i, j] false d ρ).bind fun ρ' => evSs G b ρ' s) ds ρ p.2) Q
theorem fp_ {G : Ctx} {i j : Nat} {b : List Z.S} {k : IK} {ρ : Env} {Q : Fl × Env × Store → Prop} {xs ds : List D} {S : Store} (h1 : itrD k xs S = .ok (.sq ds)) (h2 : Ok (forL (fun d ρ s => (bindG [i, j] false d ρ).bind fun ρ' => evSs G b ρ' s) ds ρ S) Q) : Fp G i j b k ρ Q (xs, S) := ⟨ds, h1, h2⟩
theorem fp_ok {G : Ctx} {i j : Nat} {b : List Z.S} {k : IK} {its : List E} {ρ : Env} {S : Store} {Q : Fl × Env × Store → Prop} (h : Ok (evEs G its ρ S) (Fp G i j b k ρ Q)) : Ok (evS G (.fo [i, j] false k its b) ρ S) Q := by
  obtain ⟨⟨xs, S'⟩, e, ds, h1, h2⟩ := h
  simp only [evS, e, h1, R.ok_bind, forI]
  exact h2
theorem mp_split {A : Type} {f : A → D} {xs : List A} {pre : List D} {d : D} {post : List D} (e : xs.map f = pre ++ d :: post) : ∃ x, xs[pre.length]? = some x ∧ d = f x ∧ xs.take (pre.length + 1) = xs.take pre.length ++ [x] := by
  have h1 : (xs.map f)[pre.length]? = some d := by rw [e]; simp
  rw [List.getElem?_map, Option.map_eq_some_iff] at h1
  obtain ⟨x, hx, rfl⟩ := h1
  refine ⟨x, hx, rfl, ?_⟩
  rw [List.take_succ, hx]
  rfl
theorem set_idm {S : Store} {m : Nat} {o : O} (h : S[m]? = some o) : S.set m o = S := by
  apply List.ext_getElem?
  intro i
  rw [List.getElem?_set]
  split
  · rename_i e
    subst e
    rw [if_pos (List.getElem?_eq_some_iff.mp h).1, h]
  · rfl
theorem dd_mem {A : Type} [DecidableEq A] {x : A} : ∀ {xs : List A}, x ∈ ded xs ↔ x ∈ xs
  | [] => Iff.rfl
  | y :: xs => by
    unfold ded
    split
    · rename_i h
      rw [dd_mem (xs := xs), List.mem_cons]
      exact ⟨.inr, fun q => q.elim (fun e => e ▸ dd_mem.mp h) id⟩
    · rw [List.mem_cons, List.mem_cons, dd_mem (xs := xs)]
theorem dd_nodup {A : Type} [DecidableEq A] : ∀ {xs : List A}, (ded xs).Nodup
  | [] => List.nodup_nil
  | y :: xs => by
    unfold ded
    split
    · exact dd_nodup
    · rename_i h
      exact List.nodup_cons.mpr ⟨h, dd_nodup⟩
theorem dd_len {A : Type} [DecidableEq A] : ∀ {xs : List A}, (ded xs).length ≤ xs.length
  | [] => Nat.le_refl _
  | y :: xs => by
    unfold ded
    split
    · exact Nat.le_succ_of_le dd_len
    · exact Nat.succ_le_succ dd_len
def small26 : List Char := ['a', 'b', 'c', 'd', 'e', 'f', 'g', 'h', 'i', 'j', 'k', 'l', 'm', 'n', 'o', 'p', 'q', 'r', 's', 't', 'u', 'v', 'w', 'x', 'y', 'z']
structure Drawn (ss : List Char) : Prop where
  pos : 0 < ss.length
  le : ss.length ≤ 4
  sm : ∀ c ∈ ss, c ∈ small26
  ri : Rise (ss.map fun c => [c])
theorem all_one {P : Char → Prop} : ∀ {xs : List (List Char)}, (∀ x ∈ xs, ∃ c, P c ∧ x = [c]) → ∃ cs : List Char, xs = cs.map (fun c => [c]) ∧ ∀ c ∈ cs, P c
  | [], _ => ⟨[], rfl, fun _ h => nomatch h⟩
  | x :: xs, h => by
    obtain ⟨c, hc, rfl⟩ := h x (by simp)
    obtain ⟨cs, rfl, hcs⟩ := all_one (xs := xs) fun y hy => h y (by simp [hy])
    exact ⟨c :: cs, rfl, fun d hd => (List.mem_cons.mp hd).elim (fun e => e ▸ hc) (hcs d)⟩
theorem drawn_ok {cs : List Char} (h0 : 0 < cs.length) (h4 : cs.length ≤ 4) (hs : ∀ c ∈ cs, c ∈ small26) : ∃ ss, Drawn ss ∧ sortS (ded (cs.map fun c => [c])) = ss.map fun c => [c] := by
  have pm := sortS_perm (ded (cs.map fun c => [c]))
  obtain ⟨ss, e, hss⟩ := all_one (P := fun c => c ∈ small26) (xs := sortS (ded (cs.map fun c => [c]))) fun x hx => by
    have hx := dd_mem.mp (pm.mem_iff.mp hx)
    obtain ⟨c, hc, rfl⟩ := List.mem_map.mp hx
    exact ⟨c, hs c hc, rfl⟩
  have hl : ss.length = (ded (cs.map fun c => [c])).length := by rw [← pm.length_eq, e, List.length_map]
  have hd := dd_len (xs := cs.map fun c => [c])
  rw [List.length_map] at hd
  refine ⟨ss, ⟨?_, by omega, hss, ?_⟩, e⟩
  · cases cs with
    | nil => simp at h0
    | cons c cs =>
      have : [c] ∈ ded ((c :: cs).map fun c => [c]) := dd_mem.mpr (by simp)
      have := List.length_pos_of_mem this
      omega
  · rw [← e]
    exact sortS_rise _ dd_nodup
theorem asg_tp2 {G : Ctx} {a b : Nat} {x y : D} {ρ : Env} {S : Store} : asg G (.tp [.nm a, .nm b]) (.tup [x, y]) ρ S = .ok ((ρ.set a (some x)).set b (some y), S) := by
  simp only [asg, asgs, List.length_cons, List.length_nil, if_true, R.ok_bind]
theorem mod_ok {S : Store} {i : Int} : binD .mod (.int i) (.int 26) S = .ok (.int (i.fmod 26), S) := by
  rw [bin_mod, if_neg (by decide)]
theorem e_drawn {k n : Nat} {S : Store} (h : Pk n S) : Ok (callF pg (k + 2) "_law_drawn_sounds" [.ref n] S) fun p => ∃ ss, Drawn ss ∧ p.1 = .str ss ∧ Fr1 n S p.2 := by
  refine call_ok (ρ := [some (.ref n), none, none, none, none]) fn_c_law_drawn_sounds rfl rfl ?_
  unfold c_law_drawn_sounds
  wp_walk
  refine Ok.bind (e_take (k := k) h (by decide) (by decide)) ?_
  rintro ⟨_, S1⟩ ⟨a, ha, rfl, f1⟩
  have f1 : Fr1 n S S1 := f1
  simp only [w_okb, w_bb, w_var, w_con, w_glo, w_tup, w_lst, w_dct, w_bin, w_not, w_and, w_or, w_cmp, w_chain, w_ix, w_call, w_blt, w_mth, w_comp, w_sl, w_rev, w_neg, w_nil, w_cons, w_and1, w_and2, w_or1, w_or2, w_asg, w_exp, w_ret, w_anm, w_asub, w_orv, w_dcn0, w_dcn1, w_whl, w_callv, w_wipe1, w_wipe2, Ok.ok_iff, subTy, List.getElem?_cons_zero, List.getElem?_cons_succ, List.set_cons_succ, List.set_cons_zero, if_true, Bool.false_eq_true, if_false, Option.map_some, Bool.not_true, Bool.not_false, Bool.true_or, Bool.or_true, Bool.false_or, Bool.or_false, Bool.true_and, Bool.and_true, Bool.false_and, Bool.and_false, eq_self, decide_true, decide_false, beq_self_eq_true, of_some, litD_f, litD_t, bin_add, bin_sub, bin_band, cmp_lti, cmp_lts, cmp_le, cmp_gt, cmp_ge, cmp_none, cmp_nnone, cmp_true, cmp_ntrue, ofB_some, cmp_in, cmp_nin, nonD_non, nonD_s, nonD_t, nonD_i, nonD_l, nonD_r, nonD_b, deref_s, deref_t, deref_l, deref_i, deref_b, deref_n, ok_s, ok_i, ok_b, ok_n, mem_s, flat_s, flat_i, flat_b, flat_n, ix_s, ix_t, ix_l, items_t, items_l, len_s, len_t2, len_t4, len_l, tuple_s, tuple_t, tuple_l, list_s, list_t, list_l, blt_max, blt_min, blt_all, blt_any, ty_s, ty_t, ty_l, ty_i, ty_b, ty_n, rec_join, rec_idx, rec_idxT, tupOnly_t, blt_int1, it_s, it_t, it_l, compI_sq, forI_sq, bind1, rev_s, rev_t, rev_l, blt_inrg, blt_ninrg, rec_upr, bind2, sl_t, sl_s, sl_l, part_i, eq_ss, eq_ii, eq_bb, eq_tn, eq_tc, eq_tc0, eq_t0c, in_nil, in_cons, in_strs, in_sgn, flat_map, all_true, cmp_eq_ii, cmp_eq_ss, cmp_eq_bb, cmp_ne_ii, cmp_ne_ss, bin_shrn, mem_strs, mem_strl, atI_0, atI_1, atI_2, atI_3]
  refine Ok.bind (e_take (k := k) f1.pk (by decide) (by decide)) ?_
  rintro ⟨_, S2⟩ ⟨b, hb, rfl, f2⟩
  have f2 : Fr1 n S1 S2 := f2
  wp_walk using asg_tp2
  refine Ok.bind (e_take (k := k) f2.pk (by decide) (by decide)) ?_
  rintro ⟨_, S3⟩ ⟨m, hm, rfl, f3⟩
  have f3 : Fr1 n S2 S3 := f3
  have e1 : (1 : Int) + (m : Int) = ((m + 1 : Nat) : Int) := by omega
  simp only [w_okb, w_bb, w_var, w_con, w_glo, w_tup, w_lst, w_dct, w_bin, w_not, w_and, w_or, w_cmp, w_chain, w_ix, w_call, w_blt, w_mth, w_comp, w_sl, w_rev, w_neg, w_nil, w_cons, w_and1, w_and2, w_or1, w_or2, w_asg, w_exp, w_ret, w_anm, w_asub, w_orv, w_dcn0, w_dcn1, w_whl, w_callv, w_wipe1, w_wipe2, Ok.ok_iff, subTy, List.getElem?_cons_zero, List.getElem?_cons_succ, List.set_cons_succ, List.set_cons_zero, if_true, Bool.false_eq_true, if_false, Option.map_some, Bool.not_true, Bool.not_false, Bool.true_or, Bool.or_true, Bool.false_or, Bool.or_false, Bool.true_and, Bool.and_true, Bool.false_and, Bool.and_false, eq_self, decide_true, decide_false, beq_self_eq_true, of_some, litD_f, litD_t, bin_add, bin_sub, bin_band, cmp_lti, cmp_lts, cmp_le, cmp_gt, cmp_ge, cmp_none, cmp_nnone, cmp_true, cmp_ntrue, ofB_some, cmp_in, cmp_nin, nonD_non, nonD_s, nonD_t, nonD_i, nonD_l, nonD_r, nonD_b, deref_s, deref_t, deref_l, deref_i, deref_b, deref_n, ok_s, ok_i, ok_b, ok_n, mem_s, flat_s, flat_i, flat_b, flat_n, ix_s, ix_t, ix_l, items_t, items_l, len_s, len_t2, len_t4, len_l, tuple_s, tuple_t, tuple_l, list_s, list_t, list_l, blt_max, blt_min, blt_all, blt_any, ty_s, ty_t, ty_l, ty_i, ty_b, ty_n, rec_join, rec_idx, rec_idxT, tupOnly_t, blt_int1, it_s, it_t, it_l, compI_sq, forI_sq, bind1, rev_s, rev_t, rev_l, blt_inrg, blt_ninrg, rec_upr, bind2, sl_t, sl_s, sl_l, part_i, eq_ss, eq_ii, eq_bb, eq_tn, eq_tc, eq_tc0, eq_t0c, in_nil, in_cons, in_strs, in_sgn, flat_map, all_true, cmp_eq_ii, cmp_eq_ss, cmp_eq_bb, cmp_ne_ii, cmp_ne_ss, bin_shrn, mem_strs, mem_strl, atI_0, atI_1, atI_2, atI_3, e1, it_r1 (n := m + 1) (by omega)]
  rw [compL_map (i := fun (j : Nat) => D.int (j : Int)) (g := fun (j : Nat) => D.str [small26.getD (((a : Int) + (1 + (b : Int)) * (j : Int)).fmod 26).toNat 'a']) fun j hj => ?_]
  rotate_left
  · have hj := List.mem_range.mp hj
    have hf := fmod_pos (a := (a : Int) + (1 + (b : Int)) * (j : Int)) (b := 26) (by decide)
    have hr : (((a : Int) + (1 + (b : Int)) * (j : Int)).fmod 26) = ((((a : Int) + (1 + (b : Int)) * (j : Int)).fmod 26).toNat : Int) := by omega
    have hl : (((a : Int) + (1 + (b : Int)) * (j : Int)).fmod 26).toNat < small26.length := by
      show _ < 26
      omega
    have hx : atI small26 ((((a : Int) + (1 + (b : Int)) * (j : Int)).fmod 26).toNat : Int) = some (small26.getD (((a : Int) + (1 + (b : Int)) * (j : Int)).fmod 26).toNat 'a') := by
      rw [atI_n, List.getD_eq_getElem?_getD, List.getElem?_eq_getElem hl]
      rfl
    rw [← hr] at hx
    unfold small26 at hx
    simp only [w_okb, w_bb, w_var, w_con, w_glo, w_tup, w_lst, w_dct, w_bin, w_not, w_and, w_or, w_cmp, w_chain, w_ix, w_call, w_blt, w_mth, w_comp, w_sl, w_rev, w_neg, w_nil, w_cons, w_and1, w_and2, w_or1, w_or2, w_asg, w_exp, w_ret, w_anm, w_asub, w_orv, w_dcn0, w_dcn1, w_whl, w_callv, w_wipe1, w_wipe2, Ok.ok_iff, subTy, List.getElem?_cons_zero, List.getElem?_cons_succ, List.set_cons_succ, List.set_cons_zero, if_true, Bool.false_eq_true, if_false, Option.map_some, Bool.not_true, Bool.not_false, Bool.true_or, Bool.or_true, Bool.false_or, Bool.or_false, Bool.true_and, Bool.and_true, Bool.false_and, Bool.and_false, eq_self, decide_true, decide_false, beq_self_eq_true, of_some, litD_f, litD_t, bin_add, bin_sub, bin_band, cmp_lti, cmp_lts, cmp_le, cmp_gt, cmp_ge, cmp_none, cmp_nnone, cmp_true, cmp_ntrue, ofB_some, cmp_in, cmp_nin, nonD_non, nonD_s, nonD_t, nonD_i, nonD_l, nonD_r, nonD_b, deref_s, deref_t, deref_l, deref_i, deref_b, deref_n, ok_s, ok_i, ok_b, ok_n, mem_s, flat_s, flat_i, flat_b, flat_n, ix_s, ix_t, ix_l, items_t, items_l, len_s, len_t2, len_t4, len_l, tuple_s, tuple_t, tuple_l, list_s, list_t, list_l, blt_max, blt_min, blt_all, blt_any, ty_s, ty_t, ty_l, ty_i, ty_b, ty_n, rec_join, rec_idx, rec_idxT, tupOnly_t, blt_int1, it_s, it_t, it_l, compI_sq, forI_sq, bind1, rev_s, rev_t, rev_l, blt_inrg, blt_ninrg, rec_upr, bind2, sl_t, sl_s, sl_l, part_i, eq_ss, eq_ii, eq_bb, eq_tn, eq_tc, eq_tc0, eq_t0c, in_nil, in_cons, in_strs, in_sgn, flat_map, all_true, cmp_eq_ii, cmp_eq_ss, cmp_eq_bb, cmp_ne_ii, cmp_ne_ss, bin_shrn, mem_strs, mem_strl, atI_0, atI_1, atI_2, atI_3, mul_ok (a := 1 + (b : Int)) (b := (j : Int)) (Nat.le_trans (small_log (by omega)) (by decide)) (Nat.le_trans (small_log (by omega)) (by decide)), mod_ok, hx]
    rfl
  have e2 : (List.map (fun (j : Nat) => D.str [small26.getD (((a : Int) + (1 + (b : Int)) * (j : Int)).fmod 26).toNat 'a']) (List.range (m + 1))) = (((List.range (m + 1)).map fun (j : Nat) => small26.getD (((a : Int) + (1 + (b : Int)) * (j : Int)).fmod 26).toNat 'a').map fun c => [c]).map D.str := by
    rw [List.map_map, List.map_map]
    rfl
  obtain ⟨ss, hss, es⟩ := drawn_ok (cs := (List.range (m + 1)).map fun (j : Nat) => small26.getD (((a : Int) + (1 + (b : Int)) * (j : Int)).fmod 26).toNat 'a') (by rw [List.length_map, List.length_range]; omega) (by rw [List.length_map, List.length_range]; omega) (by
    intro c hc
    obtain ⟨j, hj, rfl⟩ := List.mem_map.mp hc
    have hf := fmod_pos (a := (a : Int) + (1 + (b : Int)) * (j : Int)) (b := 26) (by decide)
    have hl : (((a : Int) + (1 + (b : Int)) * (j : Int)).fmod 26).toNat < small26.length := by
      show _ < 26
      omega
    rw [List.getD_eq_getElem?_getD, List.getElem?_eq_getElem hl]
    exact List.getElem_mem hl)
  have l : ((ss.map fun c => [c]).map List.length).sum + (ss.map fun c => [c]).length * ([] : List Char).length ≤ 16777216 := by
    rw [sum1]
    have := hss.le
    simp
    omega
  rw [e2]
  simp only [w_okb, w_bb, w_var, w_con, w_glo, w_tup, w_lst, w_dct, w_bin, w_not, w_and, w_or, w_cmp, w_chain, w_ix, w_call, w_blt, w_mth, w_comp, w_sl, w_rev, w_neg, w_nil, w_cons, w_and1, w_and2, w_or1, w_or2, w_asg, w_exp, w_ret, w_anm, w_asub, w_orv, w_dcn0, w_dcn1, w_whl, w_callv, w_wipe1, w_wipe2, Ok.ok_iff, subTy, List.getElem?_cons_zero, List.getElem?_cons_succ, List.set_cons_succ, List.set_cons_zero, if_true, Bool.false_eq_true, if_false, Option.map_some, Bool.not_true, Bool.not_false, Bool.true_or, Bool.or_true, Bool.false_or, Bool.or_false, Bool.true_and, Bool.and_true, Bool.false_and, Bool.and_false, eq_self, decide_true, decide_false, beq_self_eq_true, of_some, litD_f, litD_t, bin_add, bin_sub, bin_band, cmp_lti, cmp_lts, cmp_le, cmp_gt, cmp_ge, cmp_none, cmp_nnone, cmp_true, cmp_ntrue, ofB_some, cmp_in, cmp_nin, nonD_non, nonD_s, nonD_t, nonD_i, nonD_l, nonD_r, nonD_b, deref_s, deref_t, deref_l, deref_i, deref_b, deref_n, ok_s, ok_i, ok_b, ok_n, mem_s, flat_s, flat_i, flat_b, flat_n, ix_s, ix_t, ix_l, items_t, items_l, len_s, len_t2, len_t4, len_l, tuple_s, tuple_t, tuple_l, list_s, list_t, list_l, blt_max, blt_min, blt_all, blt_any, ty_s, ty_t, ty_l, ty_i, ty_b, ty_n, rec_join, rec_idx, rec_idxT, tupOnly_t, blt_int1, it_s, it_t, it_l, compI_sq, forI_sq, bind1, rev_s, rev_t, rev_l, blt_inrg, blt_ninrg, rec_upr, bind2, sl_t, sl_s, sl_l, part_i, eq_ss, eq_ii, eq_bb, eq_tn, eq_tc, eq_tc0, eq_t0c, in_nil, in_cons, in_strs, in_sgn, flat_map, all_true, cmp_eq_ii, cmp_eq_ss, cmp_eq_bb, cmp_ne_ii, cmp_ne_ss, bin_shrn, mem_strs, mem_strl, atI_0, atI_1, atI_2, atI_3, c_ssetS (xs := ((List.range (m + 1)).map fun (j : Nat) => small26.getD (((a : Int) + (1 + (b : Int)) * (j : Int)).fmod 26).toNat 'a').map fun c => [c]) (by rw [List.length_map, List.length_map, List.length_range]; omega), es, mth_join l, joinS_sgn]
  exact nrt (rt ⟨ss, hss, rfl, (f1.trans f2).trans f3⟩)
/-! a stock -/
def marksG (known : List (List Char)) (r : Nat) : List (List Char) := (sortS (((List.range 5).filter fun k => bit r k).map fun k => known.getD k [])).take 4
theorem len_filterG (known : List (List Char)) (r : Nat) : (((List.range 5).filter fun k => bit r k).map fun k => known.getD k []).length < 64 := by
  rw [List.length_map]
  have := List.length_filter_le (fun k => bit r k) (List.range 5)
  rw [List.length_range] at this
  omega
theorem marksG_len {known : List (List Char)} {r : Nat} : (marksG known r).length ≤ 4 := List.length_take_le _ _
theorem stockG_step {k n m0 : Nat} {S : Store} {ss : List Char} {known : List (List Char)} {st : Stk} {c : Char} {x5 x6 x7 : Option D} (h5 : known.length = 5) (h : Pk n S) (h0 : S[m0]? = some (.lst (st.map sndD))) (hm : m0 ≠ n) (hl : st.length ≤ 100) :
    Ok (evSs ⟨callF pg (k + 1), pg.glo, pg.fuel⟩ stockB [some (.ref n), some (.str ss), some (.lst (known.map .str)), some (.ref m0), some (sD c), x5, x6, x7] S) fun p => (p.1 = .nx ∨ p.1 = .ct) ∧
      ∃ r < 32, ∃ S1, Fr1 n S S1 ∧ p.2.2 = S1.set m0 (.lst ((st ++ [(c, marksG known r)]).map sndD)) ∧ ∃ x5 x6 x7, p.2.1 = [some (.ref n), some (.str ss), some (.lst (known.map .str)), some (.ref m0), some (sD c), x5, x6, x7] := by
  simp [stockB, len_t, R.ok_bind, R.bad_bind, evE, evEs, evAnd, evOr, evS, evSs, asg, asgs, runF, entry, wipeE, Ok.ok_iff, subTy, R.bind_assoc, forL, asgs, of_some, litD_f, litD_t, bin_add, bin_sub, bin_band, cmp_lti, cmp_lts, cmp_le, cmp_gt, cmp_ge, cmp_none, cmp_nnone, cmp_true, cmp_ntrue, ofB_some, cmp_in, cmp_nin, nonD_non, nonD_s, nonD_t, nonD_i, nonD_l, nonD_r, nonD_b, deref_s, deref_t, deref_l, deref_i, deref_b, deref_n, ok_s, ok_i, ok_b, ok_n, mem_s, flat_s, flat_i, flat_b, flat_n, ix_s, ix_t, ix_l, items_t, items_l, len_s, len_t2, len_t4, len_l, tuple_s, tuple_t, tuple_l, list_s, list_t, list_l, blt_max, blt_min, blt_all, blt_any, ty_s, ty_t, ty_l, ty_i, ty_b, ty_n, rec_join, rec_idx, rec_idxT, tupOnly_t, blt_int1, it_s, it_t, it_l, compI_sq, forI_sq, bind1, rev_s, rev_t, rev_l, blt_inrg, blt_ninrg, rec_upr, bind2, sl_t, sl_s, sl_l, part_i, eq_ss, eq_ii, eq_bb, eq_tn, eq_tc, eq_tc0, eq_t0c, in_nil, in_cons, in_strs, in_sgn, flat_map, all_true, cmp_eq_ii, cmp_eq_ss, cmp_eq_bb, cmp_ne_ii, cmp_ne_ss, bin_shrn, mem_strs, mem_strl, atI_0, atI_1, atI_2, atI_3]
  refine Ok.bind (e_take h (by decide) (by decide)) ?_
  rintro ⟨_, S1⟩ ⟨r, h1, rfl, f1⟩
  have hr : r < 32 := by omega
  have g1 := f1.get h0 hm
  simp [len_t, R.ok_bind, R.bad_bind, evE, evEs, evAnd, evOr, evS, evSs, asg, asgs, runF, entry, wipeE, Ok.ok_iff, subTy, R.bind_assoc, forL, asgs, of_some, litD_f, litD_t, bin_add, bin_sub, bin_band, cmp_lti, cmp_lts, cmp_le, cmp_gt, cmp_ge, cmp_none, cmp_nnone, cmp_true, cmp_ntrue, ofB_some, cmp_in, cmp_nin, nonD_non, nonD_s, nonD_t, nonD_i, nonD_l, nonD_r, nonD_b, deref_s, deref_t, deref_l, deref_i, deref_b, deref_n, ok_s, ok_i, ok_b, ok_n, mem_s, flat_s, flat_i, flat_b, flat_n, ix_s, ix_t, ix_l, items_t, items_l, len_s, len_t2, len_t4, len_l, tuple_s, tuple_t, tuple_l, list_s, list_t, list_l, blt_max, blt_min, blt_all, blt_any, ty_s, ty_t, ty_l, ty_i, ty_b, ty_n, rec_join, rec_idx, rec_idxT, tupOnly_t, blt_int1, it_s, it_t, it_l, compI_sq, forI_sq, bind1, rev_s, rev_t, rev_l, blt_inrg, blt_ninrg, rec_upr, bind2, sl_t, sl_s, sl_l, part_i, eq_ss, eq_ii, eq_bb, eq_tn, eq_tc, eq_tc0, eq_t0c, in_nil, in_cons, in_strs, in_sgn, flat_map, all_true, cmp_eq_ii, cmp_eq_ss, cmp_eq_bb, cmp_ne_ii, cmp_ne_ss, bin_shrn, mem_strs, mem_strl, atI_0, atI_1, atI_2, atI_3]
  rw [it_r1i (by decide) (by decide)]
  simp [len_t, R.ok_bind, R.bad_bind, evE, evEs, evAnd, evOr, evS, evSs, asg, asgs, runF, entry, wipeE, Ok.ok_iff, subTy, R.bind_assoc, forL, asgs, of_some, litD_f, litD_t, bin_add, bin_sub, bin_band, cmp_lti, cmp_lts, cmp_le, cmp_gt, cmp_ge, cmp_none, cmp_nnone, cmp_true, cmp_ntrue, ofB_some, cmp_in, cmp_nin, nonD_non, nonD_s, nonD_t, nonD_i, nonD_l, nonD_r, nonD_b, deref_s, deref_t, deref_l, deref_i, deref_b, deref_n, ok_s, ok_i, ok_b, ok_n, mem_s, flat_s, flat_i, flat_b, flat_n, ix_s, ix_t, ix_l, items_t, items_l, len_s, len_t2, len_t4, len_l, tuple_s, tuple_t, tuple_l, list_s, list_t, list_l, blt_max, blt_min, blt_all, blt_any, ty_s, ty_t, ty_l, ty_i, ty_b, ty_n, rec_join, rec_idx, rec_idxT, tupOnly_t, blt_int1, it_s, it_t, it_l, compI_sq, forI_sq, bind1, rev_s, rev_t, rev_l, blt_inrg, blt_ninrg, rec_upr, bind2, sl_t, sl_s, sl_l, part_i, eq_ss, eq_ii, eq_bb, eq_tn, eq_tc, eq_tc0, eq_t0c, in_nil, in_cons, in_strs, in_sgn, flat_map, all_true, cmp_eq_ii, cmp_eq_ss, cmp_eq_bb, cmp_ne_ii, cmp_ne_ss, bin_shrn, mem_strs, mem_strl, atI_0, atI_1, atI_2, atI_3]
  rw [show List.map (fun (j : Nat) => D.int (j : Int)) (List.range 5) = ((List.range 5).map fun (j : Nat) => .int (j : Int)) from rfl, bits_filter (r := r) (g := fun k => .str (known.getD k [])) fun k hk => ?_]
  · have e : (List.map (fun k => D.str (known.getD k [])) (List.filter (fun k => bit r k) (List.range 5))) = (((List.range 5).filter fun k => bit r k).map fun k => known.getD k []).map D.str := by rw [List.map_map]; rfl
    have el : (st.map sndD).length < sizeLine := by rw [List.length_map, sizeL]; omega
    have g1 : S1[m0]? = some (.lst (st.map sndD)) := g1
    simp only [e, len_t, R.ok_bind, R.bad_bind, evE, evEs, evAnd, evOr, evS, evSs, asg, asgs, runF, entry, wipeE, Ok.ok_iff, subTy, R.bind_assoc, forL, asgs, of_some, litD_f, litD_t, bin_add, bin_sub, bin_band, cmp_lti, cmp_lts, cmp_le, cmp_gt, cmp_ge, cmp_none, cmp_nnone, cmp_true, cmp_ntrue, ofB_some, cmp_in, cmp_nin, nonD_non, nonD_s, nonD_t, nonD_i, nonD_l, nonD_r, nonD_b, deref_s, deref_t, deref_l, deref_i, deref_b, deref_n, ok_s, ok_i, ok_b, ok_n, mem_s, flat_s, flat_i, flat_b, flat_n, ix_s, ix_t, ix_l, items_t, items_l, len_s, len_t2, len_t4, len_l, tuple_s, tuple_t, tuple_l, list_s, list_t, list_l, blt_max, blt_min, blt_all, blt_any, ty_s, ty_t, ty_l, ty_i, ty_b, ty_n, rec_join, rec_idx, rec_idxT, tupOnly_t, blt_int1, it_s, it_t, it_l, compI_sq, forI_sq, bind1, rev_s, rev_t, rev_l, blt_inrg, blt_ninrg, rec_upr, bind2, sl_t, sl_s, sl_l, part_i, eq_ss, eq_ii, eq_bb, eq_tn, eq_tc, eq_tc0, eq_t0c, in_nil, in_cons, in_strs, in_sgn, flat_map, all_true, cmp_eq_ii, cmp_eq_ss, cmp_eq_bb, cmp_ne_ii, cmp_ne_ss, bin_shrn, mem_strs, mem_strl, atI_0, atI_1, atI_2, atI_3, blt_sorted (len_filterG known r), rec_app g1, if_true, mth_app g1 el]
    refine ⟨.inl trivial, r, hr, S1, f1, ?_, _, _, _, rfl⟩
    rw [cut4, ← List.map_take]
    rfl
  · have hk5 : k < known.length := by omega
    by_cases hb : Builtin.bitAnd ((r : Int) / 2 ^ k) 1 = 1 <;> simp [len_t, R.ok_bind, R.bad_bind, evE, evEs, evAnd, evOr, evS, evSs, asg, asgs, runF, entry, wipeE, Ok.ok_iff, subTy, R.bind_assoc, forL, asgs, of_some, litD_f, litD_t, bin_add, bin_sub, bin_band, cmp_lti, cmp_lts, cmp_le, cmp_gt, cmp_ge, cmp_none, cmp_nnone, cmp_true, cmp_ntrue, ofB_some, cmp_in, cmp_nin, nonD_non, nonD_s, nonD_t, nonD_i, nonD_l, nonD_r, nonD_b, deref_s, deref_t, deref_l, deref_i, deref_b, deref_n, ok_s, ok_i, ok_b, ok_n, mem_s, flat_s, flat_i, flat_b, flat_n, ix_s, ix_t, ix_l, items_t, items_l, len_s, len_t2, len_t4, len_l, tuple_s, tuple_t, tuple_l, list_s, list_t, list_l, blt_max, blt_min, blt_all, blt_any, ty_s, ty_t, ty_l, ty_i, ty_b, ty_n, rec_join, rec_idx, rec_idxT, tupOnly_t, blt_int1, it_s, it_t, it_l, compI_sq, forI_sq, bind1, rev_s, rev_t, rev_l, blt_inrg, blt_ninrg, rec_upr, bind2, sl_t, sl_s, sl_l, part_i, eq_ss, eq_ii, eq_bb, eq_tn, eq_tc, eq_tc0, eq_t0c, in_nil, in_cons, in_strs, in_sgn, flat_map, all_true, cmp_eq_ii, cmp_eq_ss, cmp_eq_bb, cmp_ne_ii, cmp_ne_ss, bin_shrn, mem_strs, mem_strl, atI_0, atI_1, atI_2, atI_3, bit, atI_n, hb, hk5]
theorem stockG_loop {k n m0 : Nat} {S : Store} {ss : List Char} {known : List (List Char)} {x4 x5 x6 x7 : Option D} (h5 : known.length = 5) (h : Pk n S) (h0 : S[m0]? = some (.lst [])) (hm : m0 ≠ n) (hl : ss.length ≤ 100) :
    Ok (forL (fun d ρ s => evSs ⟨callF pg (k + 1), pg.glo, pg.fuel⟩ stockB (ρ.set 4 (some d)) s) (ss.map fun c => .str [c]) [some (.ref n), some (.str ss), some (.lst (known.map .str)), some (.ref m0), x4, x5, x6, x7] S) fun p => p.1 = .nx ∧
      ∃ (st : Stk) (S1 : Store), p.2.2 = S1 ∧ Pk n S1 ∧ S.length ≤ S1.length ∧ (∀ m, m ≠ n → m ≠ m0 → m < S.length → S1[m]? = S[m]?) ∧ st.map (·.1) = ss ∧ (∀ p ∈ st, ∃ r < 32, p.2 = marksG known r) ∧ S1[m0]? = some (.lst (st.map sndD)) ∧ ∃ x4 x5 x6 x7, p.2.1 = [some (.ref n), some (.str ss), some (.lst (known.map .str)), some (.ref m0), x4, x5, x6, x7] := by
  have := forL_inv (f := fun d ρ s => evSs ⟨callF pg (k + 1), pg.glo, pg.fuel⟩ stockB (ρ.set 4 (some d)) s)
    (fun pre ρ S1 => ∃ st : Stk, pre = (st.map (·.1)).map sD ∧ Pk n S1 ∧ S.length ≤ S1.length ∧ (∀ m, m ≠ n → m ≠ m0 → m < S.length → S1[m]? = S[m]?) ∧ (∀ p ∈ st, ∃ r < 32, p.2 = marksG known r) ∧ S1[m0]? = some (.lst (st.map sndD)) ∧ ∃ x4 x5 x6 x7, ρ = [some (.ref n), some (.str ss), some (.lst (known.map .str)), some (.ref m0), x4, x5, x6, x7])
    (all := ss.map fun c => .str [c]) (ρ := [some (.ref n), some (.str ss), some (.lst (known.map .str)), some (.ref m0), x4, x5, x6, x7]) (S := S) ⟨[], rfl, h, Nat.le_refl _, fun _ _ _ _ => rfl, fun _ h => (nomatch h), h0, _, _, _, _, rfl⟩ ?_
  · refine this.mono ?_
    rintro ⟨a, b, c⟩ ⟨e, st, e1, h1, h2, h3, h4, h5, h7⟩
    refine ⟨e, st, c, rfl, h1, h2, h3, ?_, h4, h5, h7⟩
    have : ss.map sD = (st.map (·.1)).map sD := e1
    exact (map_sD_inj _ _ this).symm
  · rintro pre d post _ S1 e ⟨st, rfl, h1, h2, h3, h4, h5', x4, x5, x6, x7, rfl⟩
    have el := congrArg List.length e
    simp only [List.length_map, List.length_append, List.length_cons] at el
    have hd : d ∈ ss.map fun c => D.str [c] := by rw [e]; simp
    obtain ⟨c, _, rfl⟩ := List.mem_map.mp hd
    refine (stockG_step (c := c) (st := st) h5 h1 h5' hm (by omega)).mono ?_
    rintro ⟨a, b, _⟩ ⟨q, r, hr, S2, f2, rfl, x5, x6, x7, rfl⟩
    have hl2 : m0 < S2.length := Nat.lt_of_lt_of_le (List.getElem?_eq_some_iff.mp h5').1 f2.len
    refine ⟨q, st ++ [(c, marksG known r)], by simp [sD], ?_, ?_, ?_, ?_, ?_, _, _, _, _, rfl⟩
    · obtain ⟨N, hN⟩ := f2.pk
      exact ⟨N, by show (S2.set m0 _)[n]? = _; rw [List.getElem?_set_ne hm]; exact hN⟩
    · show _ ≤ (S2.set m0 _).length
      rw [List.length_set]
      exact Nat.le_trans h2 f2.len
    · intro m a b c
      show (S2.set m0 _)[m]? = _
      rw [List.getElem?_set_ne (Ne.symm b), f2.old m a (Nat.lt_of_lt_of_le c h2)]
      exact h3 m a b c
    · intro p hp
      rcases List.mem_append.mp hp with hp | hp
      · exact h4 p hp
      · rw [List.mem_singleton.mp hp]
        exact ⟨r, hr, rfl⟩
    · show (S2.set m0 _)[m0]? = _
      rw [List.getElem?_set_self hl2]
end Z

set_option Elab.async false
set_option linter.all false
set_option maxRecDepth 100000
set_option maxHeartbeats 4000000
namespace Z
open PySem L2 PySem.Spec PyProof.Rows
structure DStk (known : List (List Char)) (st : Stk) : Prop where
  dr : Drawn (st.map (·.1))
  mks : ∀ p ∈ st, ∃ r < 32, p.2 = marksG known r
theorem up_small : ∀ c ∈ small26, c.toNat < 128 ∧ upC c ∉ small26 := by decide +kernel
theorem compL_tt {f : D → Store → R (List D × Store)} {S : Store} : ∀ {ds : List D}, (∀ d ∈ ds, f d S = .ok ([.bl true], S)) → compL f ds S = .ok (ds.map fun _ => .bl true, S)
  | [], _ => rfl
  | d :: ds, h => by
    rw [compL, h d (by simp), R.ok_bind, compL_tt (ds := ds) fun x hx => h x (by simp [hx]), R.ok_bind]
    rfl
theorem fm_nil {A : Type} {P : A → Prop} : ∀ x ∈ ([] : List A), P x := fun _ h => nomatch h
theorem fm_cons {A : Type} {P : A → Prop} {x : A} {xs : List A} (h : P x) (h2 : ∀ y ∈ xs, P y) : ∀ y ∈ x :: xs, P y := fun y hy => (List.mem_cons.mp hy).elim (fun e => e ▸ h) (h2 y)
theorem fm_app {A : Type} {P : A → Prop} {xs ys : List A} (h : ∀ y ∈ xs, P y) (h2 : ∀ y ∈ ys, P y) : ∀ y ∈ xs ++ ys, P y := fun y hy => (List.mem_append.mp hy).elim (h y) (h2 y)
theorem ty_of {m : Bool} {S : Store} {d : D} {t u : Ty} (h : tyD S d = some t) : bltD m (.isTy u) [d] S = .ok (.bl (subTy t u), S) := by
  simp only [bltD, h]
theorem all_tt2 {A : Type} {xs : List A} : (xs.all fun _ => true) = true := by simp
theorem any_other : ∀ (ss xs : List Char), ss.length < xs.length → xs.Nodup → ∃ c ∈ xs, c ∉ ss := by
  intro ss xs hl hn
  apply Classical.byContradiction
  intro hc
  have : ∀ c ∈ xs, c ∈ ss := fun c hc2 => Classical.byContradiction fun q => hc ⟨c, hc2, q⟩
  have := List.Nodup.length_le_of_subset hn this
  omega
theorem mem_rangeC2 {d : D} {c : Int} : ∀ {n : Nat} {lo : Int}, d ∈ rangeC lo c n → ∃ i < n, d = .int (lo + (i : Int) * c)
  | 0, _, h => by simp [rangeC] at h
  | n + 1, lo, h => by
    rw [rangeC] at h
    rcases List.mem_cons.mp h with rfl | h
    · exact ⟨0, by omega, by simp⟩
    · obtain ⟨i, hi, rfl⟩ := mem_rangeC2 h
      refine ⟨i + 1, by omega, ?_⟩
      congr 1
      rw [Int.natCast_add, Int.add_mul]
      simp
      omega
theorem max_min {ns : List Int} {q : Nat} (hq : 1 ≤ q) : ∃ m : Nat, (if (if (q : Int) < (ns.length : Int) then (q : Int) else (ns.length : Int)) > 1 then (if (q : Int) < (ns.length : Int) then (q : Int) else (ns.length : Int)) else 1) = (m : Int) ∧ m ≤ q := by
  by_cases h1 : (q : Int) < (ns.length : Int)
  · rw [if_pos h1]
    by_cases h2 : (q : Int) > 1
    · rw [if_pos h2]
      exact ⟨q, rfl, Nat.le_refl _⟩
    · rw [if_neg h2]
      exact ⟨1, rfl, hq⟩
  · rw [if_neg h1]
    by_cases h2 : (ns.length : Int) > 1
    · rw [if_pos h2]
      exact ⟨ns.length, rfl, by omega⟩
    · rw [if_neg h2]
      exact ⟨1, rfl, hq⟩
theorem it_r3 {S : Store} {m : Nat} (h : m ≤ 1000) : itrD .rng3 [.int 0, .int (m : Int), .int 2] S = .ok (.sq (rangeC 0 2 (((m : Int) - 0 + 2 - 1) / 2).toNat)) := by
  have hz := sizeL
  simp only [itrD]
  rw [if_pos ⟨by omega, by omega, by omega, by omega, by omega, by omega, by omega⟩]
end Z

set_option Elab.async false
set_option linter.all false
set_option maxRecDepth 100000
set_option maxHeartbeats 4000000
namespace Z
open PySem L2 PySem.Spec PyProof.Rows
local macro_rules
  | `(tactic| wp_walk using $ts,*) => `(tactic| ((try simp only [w_okb, w_bb, w_var, w_con, w_glo, w_tup, w_lst, w_dct, w_bin, w_not, w_and, w_or, w_cmp, w_chain, w_ix, w_call, w_blt, w_mth, w_comp, w_sl, w_rev, w_neg, w_nil, w_cons, w_and1, w_and2, w_or1, w_or2, w_asg, w_exp, w_ret, w_anm, w_asub, w_orv, w_dcn0, w_dcn1, w_whl, w_callv, w_wipe1, w_wipe2, Ok.ok_iff, subTy, List.getElem?_cons_zero, List.getElem?_cons_succ, List.set_cons_succ, List.set_cons_zero, if_true, Bool.false_eq_true, if_false, Option.map_some, Bool.not_true, Bool.not_false, Bool.true_or, Bool.or_true, Bool.false_or, Bool.or_false, Bool.true_and, Bool.and_true, Bool.false_and, Bool.and_false, eq_self, decide_true, decide_false, beq_self_eq_true, of_some, litD_f, litD_t, bin_add, bin_sub, bin_band, cmp_lti, cmp_lts, cmp_le, cmp_gt, cmp_ge, cmp_none, cmp_nnone, cmp_true, cmp_ntrue, ofB_some, cmp_in, cmp_nin, nonD_non, nonD_s, nonD_t, nonD_i, nonD_l, nonD_r, nonD_b, deref_s, deref_t, deref_l, deref_i, deref_b, deref_n, ok_s, ok_i, ok_b, ok_n, mem_s, flat_s, flat_i, flat_b, flat_n, ix_s, ix_t, ix_l, items_t, items_l, len_s, len_t2, len_t4, len_l, tuple_s, tuple_t, tuple_l, list_s, list_t, list_l, blt_max, blt_min, blt_all, blt_any, ty_s, ty_t, ty_l, ty_i, ty_b, ty_n, rec_join, rec_idx, rec_idxT, tupOnly_t, blt_int1, it_s, it_t, it_l, compI_sq, forI_sq, bind1, rev_s, rev_t, rev_l, blt_inrg, blt_ninrg, rec_upr, bind2, sl_t, sl_s, sl_l, part_i, eq_ss, eq_ii, eq_bb, eq_tn, eq_tc, eq_tc0, eq_t0c, in_nil, in_cons, in_strs, in_sgn, flat_map, all_true, cmp_eq_ii, cmp_eq_ss, cmp_eq_bb, cmp_ne_ii, cmp_ne_ss, bin_shrn, mem_strs, mem_strl, atI_0, atI_1, atI_2, atI_3, $[$ts:term],*]); repeat' (first | (with_reducible refine nx ?_) | (with_reducible refine nrt ?_) | (with_reducible refine rt ?_) | (with_reducible refine i_t ?_) | (with_reducible refine i_f ?_) | (with_reducible refine ss_nil ?_) | (with_reducible refine ss_cons (ite_ok ?_)) | (with_reducible refine ss_cons (fo_ok ?_)) | (with_reducible refine ss_cons ?_) | ((first | (with_reducible refine okE ?_) | (with_reducible refine okS ?_) | (with_reducible refine okEs ?_)); simp only [w_okb, w_bb, w_var, w_con, w_glo, w_tup, w_lst, w_dct, w_bin, w_not, w_and, w_or, w_cmp, w_chain, w_ix, w_call, w_blt, w_mth, w_comp, w_sl, w_rev, w_neg, w_nil, w_cons, w_and1, w_and2, w_or1, w_or2, w_asg, w_exp, w_ret, w_anm, w_asub, w_orv, w_dcn0, w_dcn1, w_whl, w_callv, w_wipe1, w_wipe2, Ok.ok_iff, subTy, List.getElem?_cons_zero, List.getElem?_cons_succ, List.set_cons_succ, List.set_cons_zero, if_true, Bool.false_eq_true, if_false, Option.map_some, Bool.not_true, Bool.not_false, Bool.true_or, Bool.or_true, Bool.false_or, Bool.or_false, Bool.true_and, Bool.and_true, Bool.false_and, Bool.and_false, eq_self, decide_true, decide_false, beq_self_eq_true, of_some, litD_f, litD_t, bin_add, bin_sub, bin_band, cmp_lti, cmp_lts, cmp_le, cmp_gt, cmp_ge, cmp_none, cmp_nnone, cmp_true, cmp_ntrue, ofB_some, cmp_in, cmp_nin, nonD_non, nonD_s, nonD_t, nonD_i, nonD_l, nonD_r, nonD_b, deref_s, deref_t, deref_l, deref_i, deref_b, deref_n, ok_s, ok_i, ok_b, ok_n, mem_s, flat_s, flat_i, flat_b, flat_n, ix_s, ix_t, ix_l, items_t, items_l, len_s, len_t2, len_t4, len_l, tuple_s, tuple_t, tuple_l, list_s, list_t, list_l, blt_max, blt_min, blt_all, blt_any, ty_s, ty_t, ty_l, ty_i, ty_b, ty_n, rec_join, rec_idx, rec_idxT, tupOnly_t, blt_int1, it_s, it_t, it_l, compI_sq, forI_sq, bind1, rev_s, rev_t, rev_l, blt_inrg, blt_ninrg, rec_upr, bind2, sl_t, sl_s, sl_l, part_i, eq_ss, eq_ii, eq_bb, eq_tn, eq_tc, eq_tc0, eq_t0c, in_nil, in_cons, in_strs, in_sgn, flat_map, all_true, cmp_eq_ii, cmp_eq_ss, cmp_eq_bb, cmp_ne_ii, cmp_ne_ss, bin_shrn, mem_strs, mem_strl, atI_0, atI_1, atI_2, atI_3, $[$ts:term],*]))))
  | `(tactic| wp_walk) => `(tactic| wp_walk using w_nil)
/-! what the program says of any things -/
def gd (S : Store) : Nat → D → Bool
  | 0, d => (tyD S d).isSome
  | n + 1, d => (tyD S d).isSome && match d with
    | .tup ds => ds.all (gd S n)
    | _ => true
theorem gd_ty {S : Store} {n : Nat} {d : D} (h : gd S n d = true) : ∃ t, tyD S d = some t := by
  have : (tyD S d).isSome = true := by
    cases n with
    | zero => exact h
    | succ n => unfold gd at h; exact (Bool.and_eq_true_iff.mp h).1
  exact Option.isSome_iff_exists.mp this
theorem gd_it {S : Store} {n : Nat} {ds : List D} (h : gd S (n + 1) (.tup ds) = true) : ∀ d ∈ ds, gd S n d = true := by
  unfold gd at h
  exact List.all_eq_true.mp (Bool.and_eq_true_iff.mp h).2
theorem ty_str {S : Store} {d : D} (h : tyD S d = some .str) : ∃ x, d = .str x := by
  cases d with
  | str x => exact ⟨x, rfl⟩
  | ref n =>
    simp only [tyD] at h
    split at h <;> cases h
  | _ => cases h
theorem ty_tup {S : Store} {d : D} (h : tyD S d = some .tuple) : ∃ ds, d = .tup ds := by
  cases d with
  | tup x => exact ⟨x, rfl⟩
  | ref n =>
    simp only [tyD] at h
    split at h <;> cases h
  | _ => cases h
theorem ns_of {S : Store} {d : D} {t : Ty} (h : tyD S d = some t) (hd : ∀ x, d ≠ .str x) : decide (t = Ty.str) = false := decide_eq_false fun e => by
  obtain ⟨x, hx⟩ := ty_str (e ▸ h)
  exact hd x hx
theorem nt_of {S : Store} {d : D} {t : Ty} (h : tyD S d = some t) (hd : ∀ x, d ≠ .tup x) : decide (t = Ty.tuple) = false := decide_eq_false fun e => by
  obtain ⟨x, hx⟩ := ty_tup (e ▸ h)
  exact hd x hx
theorem ty_si : decide (Ty.str = Ty.int) = false := rfl
theorem ty_ti : decide (Ty.tuple = Ty.int) = false := rfl
theorem ty_ss : decide (Ty.str = Ty.str) = true := rfl
theorem ty_tt : decide (Ty.tuple = Ty.tuple) = true := rfl
theorem compL_id {f : D → Store → R (List D × Store)} {p : D → Bool} {S : Store} : ∀ {ds : List D}, (∀ d ∈ ds, f d S = .ok ([.bl (p d)], S)) → compL f ds S = .ok (ds.map fun d => .bl (p d), S)
  | [], _ => rfl
  | d :: ds, h => by
    rw [compL, h d (by simp), R.ok_bind, compL_id (ds := ds) fun x hx => h x (by simp [hx]), R.ok_bind]
    rfl
theorem gl_sm : pg.glo "SMALL" = some (.str small26) := by kernel_rfl
theorem gl_ml : pg.glo "MOST_LETTERS" = some (.int 8) := by kernel_rfl
theorem gl_mm : pg.glo "MOST_MARKS" = some (.int 4) := by kernel_rfl
theorem gl_ms : pg.glo "MOST_SOUNDS" = some (.int 4) := by kernel_rfl
def nameB : D → Bool
  | .str x => decide (1 ≤ x.length) && decide (x.length ≤ 8) && x.all fun c => decide (c ∈ small26)
  | _ => false
theorem e_nameD {k : Nat} {S : Store} {d : D} (h : gd S 0 d = true) : callF pg (k + 1) "is_name" [d] S = .ok (.bl (nameB d), S) := by
  refine eq_ok (call_ok (ρ := [some d, none]) fn_c_is_name rfl rfl (ss_cons (ite_ok ?_)))
  by_cases hs : ∃ x, d = .str x
  · obtain ⟨x, rfl⟩ := hs
    by_cases h1 : 1 ≤ x.length
    · have d1 : decide ((1 : Int) ≤ (x.length : Int)) = true := decide_eq_true (by omega)
      have e1 : decide (1 ≤ x.length) = true := decide_eq_true h1
      by_cases h2 : x.length ≤ 8
      · have d2 : decide ((x.length : Int) ≤ (8 : Int)) = true := decide_eq_true (by omega)
        have e2 : decide (x.length ≤ 8) = true := decide_eq_true h2
        wp_walk using ty_ss, gl_ml, d1, d2
        rw [compL_map (i := fun c : Char => D.str [c]) (g := fun c => .bl (decide (c ∈ small26))) fun c _ => by simp only [w_okb, w_bb, w_var, w_con, w_glo, w_tup, w_lst, w_dct, w_bin, w_not, w_and, w_or, w_cmp, w_chain, w_ix, w_call, w_blt, w_mth, w_comp, w_sl, w_rev, w_neg, w_nil, w_cons, w_and1, w_and2, w_or1, w_or2, w_asg, w_exp, w_ret, w_anm, w_asub, w_orv, w_dcn0, w_dcn1, w_whl, w_callv, w_wipe1, w_wipe2, Ok.ok_iff, subTy, List.getElem?_cons_zero, List.getElem?_cons_succ, List.set_cons_succ, List.set_cons_zero, if_true, Bool.false_eq_true, if_false, Option.map_some, Bool.not_true, Bool.not_false, Bool.true_or, Bool.or_true, Bool.false_or, Bool.or_false, Bool.true_and, Bool.and_true, Bool.false_and, Bool.and_false, eq_self, decide_true, decide_false, beq_self_eq_true, of_some, litD_f, litD_t, bin_add, bin_sub, bin_band, cmp_lti, cmp_lts, cmp_le, cmp_gt, cmp_ge, cmp_none, cmp_nnone, cmp_true, cmp_ntrue, ofB_some, cmp_in, cmp_nin, nonD_non, nonD_s, nonD_t, nonD_i, nonD_l, nonD_r, nonD_b, deref_s, deref_t, deref_l, deref_i, deref_b, deref_n, ok_s, ok_i, ok_b, ok_n, mem_s, flat_s, flat_i, flat_b, flat_n, ix_s, ix_t, ix_l, items_t, items_l, len_s, len_t2, len_t4, len_l, tuple_s, tuple_t, tuple_l, list_s, list_t, list_l, blt_max, blt_min, blt_all, blt_any, ty_s, ty_t, ty_l, ty_i, ty_b, ty_n, rec_join, rec_idx, rec_idxT, tupOnly_t, blt_int1, it_s, it_t, it_l, compI_sq, forI_sq, bind1, rev_s, rev_t, rev_l, blt_inrg, blt_ninrg, rec_upr, bind2, sl_t, sl_s, sl_l, part_i, eq_ss, eq_ii, eq_bb, eq_tn, eq_tc, eq_tc0, eq_t0c, in_nil, in_cons, in_strs, in_sgn, flat_map, all_true, cmp_eq_ii, cmp_eq_ss, cmp_eq_bb, cmp_ne_ii, cmp_ne_ss, bin_shrn, mem_strs, mem_strl, atI_0, atI_1, atI_2, atI_3, gl_sm]]
        wp_walk using blt_all
        simp only [nameB, e1, e2, Bool.true_and]
      · have d2 : decide ((x.length : Int) ≤ (8 : Int)) = false := decide_eq_false (by omega)
        have e2 : decide (x.length ≤ 8) = false := decide_eq_false h2
        wp_walk using ty_ss, gl_ml, d1, d2
        simp only [nameB, e1, e2, Bool.false_and, Bool.and_false]
    · have d1 : decide ((1 : Int) ≤ (x.length : Int)) = false := decide_eq_false (by omega)
      have e1 : decide (1 ≤ x.length) = false := decide_eq_false h1
      wp_walk using ty_ss, gl_ml, d1
      simp only [nameB, e1, Bool.false_and]
  · have hn : ∀ x, d ≠ .str x := fun x e => hs ⟨x, e⟩
    obtain ⟨t, ht⟩ := gd_ty h
    have e : nameB d = false := by
      cases d <;> first | rfl | exact absurd rfl (hn _)
    wp_walk using ty_of ht, ns_of ht hn, ty_si
    rw [e]
def strOf : D → List Char
  | .str x => x
  | _ => []
def marksB : D → Bool
  | .tup ds => decide (ds.length ≤ 4) && ds.all nameB && risB (ds.map strOf)
  | _ => false
theorem names_str : ∀ {ds : List D}, ds.all nameB = true → ds = (ds.map strOf).map .str
  | [], _ => rfl
  | d :: ds, h => by
    rw [List.all_cons, Bool.and_eq_true] at h
    have := names_str h.2
    cases d with
    | str x =>
      rw [List.map_cons, List.map_cons, ← this]
      rfl
    | _ => cases h.1
theorem e_marksD {k : Nat} {S : Store} {d : D} (h : gd S 1 d = true) : callF pg (k + 2) "are_marks" [d] S = .ok (.bl (marksB d), S) := by
  refine eq_ok (call_ok (ρ := [some d, none]) fn_c_are_marks rfl rfl (ss_cons (ite_ok ?_)))
  by_cases hs : ∃ x, d = .tup x
  · obtain ⟨ds, rfl⟩ := hs
    by_cases h1 : ds.length ≤ 4
    · have d1 : decide ((4 : Int) < (ds.length : Int)) = false := decide_eq_false (by omega)
      have e1 : decide (ds.length ≤ 4) = true := decide_eq_true h1
      wp_walk using ty_tt, gl_mm, len_t, d1
      rw [compL_id (p := nameB) fun x hx => by simp only [w_okb, w_bb, w_var, w_con, w_glo, w_tup, w_lst, w_dct, w_bin, w_not, w_and, w_or, w_cmp, w_chain, w_ix, w_call, w_blt, w_mth, w_comp, w_sl, w_rev, w_neg, w_nil, w_cons, w_and1, w_and2, w_or1, w_or2, w_asg, w_exp, w_ret, w_anm, w_asub, w_orv, w_dcn0, w_dcn1, w_whl, w_callv, w_wipe1, w_wipe2, Ok.ok_iff, subTy, List.getElem?_cons_zero, List.getElem?_cons_succ, List.set_cons_succ, List.set_cons_zero, if_true, Bool.false_eq_true, if_false, Option.map_some, Bool.not_true, Bool.not_false, Bool.true_or, Bool.or_true, Bool.false_or, Bool.or_false, Bool.true_and, Bool.and_true, Bool.false_and, Bool.and_false, eq_self, decide_true, decide_false, beq_self_eq_true, of_some, litD_f, litD_t, bin_add, bin_sub, bin_band, cmp_lti, cmp_lts, cmp_le, cmp_gt, cmp_ge, cmp_none, cmp_nnone, cmp_true, cmp_ntrue, ofB_some, cmp_in, cmp_nin, nonD_non, nonD_s, nonD_t, nonD_i, nonD_l, nonD_r, nonD_b, deref_s, deref_t, deref_l, deref_i, deref_b, deref_n, ok_s, ok_i, ok_b, ok_n, mem_s, flat_s, flat_i, flat_b, flat_n, ix_s, ix_t, ix_l, items_t, items_l, len_s, len_t2, len_t4, len_l, tuple_s, tuple_t, tuple_l, list_s, list_t, list_l, blt_max, blt_min, blt_all, blt_any, ty_s, ty_t, ty_l, ty_i, ty_b, ty_n, rec_join, rec_idx, rec_idxT, tupOnly_t, blt_int1, it_s, it_t, it_l, compI_sq, forI_sq, bind1, rev_s, rev_t, rev_l, blt_inrg, blt_ninrg, rec_upr, bind2, sl_t, sl_s, sl_l, part_i, eq_ss, eq_ii, eq_bb, eq_tn, eq_tc, eq_tc0, eq_t0c, in_nil, in_cons, in_strs, in_sgn, flat_map, all_true, cmp_eq_ii, cmp_eq_ss, cmp_eq_bb, cmp_ne_ii, cmp_ne_ss, bin_shrn, mem_strs, mem_strl, atI_0, atI_1, atI_2, atI_3, e_nameD (k := k) (gd_it h x hx)]]
      wp_walk using blt_all
      cases ha : ds.all nameB with
      | true =>
        wp_walk
        have hx := names_str ha
        have hl : (ds.map strOf).length ≤ 16777216 := by rw [List.length_map]; omega
        rw [hx]
        simp only [e_is_rising (k := k) (xs := ds.map strOf) (.inl rfl) hl, R.ok_bind]
        refine ⟨_, rfl, nrt (rt ?_)⟩
        rw [← hx]
        simp only [marksB, e1, ha, Bool.true_and]
      | false =>
        wp_walk
        simp only [marksB, ha, Bool.and_false, Bool.false_and]
    · have d1 : decide ((4 : Int) < (ds.length : Int)) = true := decide_eq_true (by omega)
      have e1 : decide (ds.length ≤ 4) = false := decide_eq_false h1
      wp_walk using ty_tt, gl_mm, len_t, d1
      simp only [marksB, e1, Bool.false_and]
  · have hn : ∀ x, d ≠ .tup x := fun x e => hs ⟨x, e⟩
    obtain ⟨t, ht⟩ := gd_ty h
    have e : marksB d = false := by
      cases d <;> first | rfl | exact absurd rfl (hn _)
    wp_walk using ty_of ht, nt_of ht hn, ty_ti
    rw [e]
def markedB : D → Bool
  | .tup [a, b] => nameB a && (decide ((strOf a).length = 1) && marksB b)
  | _ => false
theorem name_str {a : D} (h : nameB a = true) : ∃ x, a = .str x := by
  cases a <;> first | exact ⟨_, rfl⟩ | cases h
theorem e_markedD {k : Nat} {S : Store} {d : D} (h : gd S 2 d = true) : callF pg (k + 3) "is_marked" [d] S = .ok (.bl (markedB d), S) := by
  refine eq_ok (call_ok (ρ := [some d]) fn_c_is_marked rfl rfl (ss_cons (ite_ok ?_)))
  by_cases hs : ∃ x, d = .tup x
  · obtain ⟨ds, rfl⟩ := hs
    by_cases h2 : ds.length = 2
    · match ds, h2 with
      | [a, b], _ =>
        have d1 : decide ((([a, b] : List D).length : Int) = 2) = true := rfl
        have ha := gd_it h a (by simp)
        have hb := gd_it h b (by simp)
        have ha0 : gd S 0 a = true := by
          obtain ⟨t, ht⟩ := gd_ty ha
          unfold gd
          rw [ht]
          rfl
        wp_walk using ty_tt, len_t, d1, atI_0, e_nameD (k := k + 1) ha0
        cases hn : nameB a with
        | true =>
          obtain ⟨x, rfl⟩ := name_str hn
          by_cases hx : x.length = 1
          · have dx : decide ((x.length : Int) = 1) = true := decide_eq_true (by omega)
            have ex : decide (x.length = 1) = true := decide_eq_true hx
            wp_walk using atI_0, atI_1, dx, e_marksD (k := k) hb
            rw [show markedB (.tup [.str x, b]) = (nameB (.str x) && (decide (x.length = 1) && marksB b)) from rfl, hn, ex]
            rfl
          · have dx : decide ((x.length : Int) = 1) = false := decide_eq_false (by omega)
            have ex : decide (x.length = 1) = false := decide_eq_false hx
            wp_walk using atI_0, atI_1, dx
            rw [show markedB (.tup [.str x, b]) = (nameB (.str x) && (decide (x.length = 1) && marksB b)) from rfl, hn, ex]
            rfl
        | false =>
          wp_walk
          simp only [markedB, hn, Bool.false_and]
    · have d1 : decide ((ds.length : Int) = 2) = false := decide_eq_false (by omega)
      have e : markedB (.tup ds) = false := by
        match ds, h2 with
        | [], _ => rfl
        | [_], _ => rfl
        | [_, _], h => exact absurd rfl h
        | _ :: _ :: _ :: _, _ => rfl
      wp_walk using ty_tt, len_t, d1
      rw [e]
  · have hn : ∀ x, d ≠ .tup x := fun x e => hs ⟨x, e⟩
    obtain ⟨t, ht⟩ := gd_ty h
    have e : markedB d = false := by
      cases d <;> first | rfl | exact absurd rfl (hn _)
    wp_walk using ty_of ht, nt_of ht hn, ty_ti
    rw [e]
def sndOf : D → List Char
  | .tup (.str x :: _) => x
  | _ => []
def stkB : D → Bool
  | .tup ds => decide (1 ≤ ds.length) && decide (ds.length ≤ 4) && ds.all markedB && risB (ds.map sndOf)
  | _ => false
theorem marked_pr : ∀ {ds : List D}, ds.all markedB = true → ∃ ps : List (List Char × D), ds = ps.map (fun p => .tup [.str p.1, p.2]) ∧ ds.map sndOf = ps.map (·.1)
  | [], _ => ⟨[], rfl, rfl⟩
  | d :: ds, h => by
    rw [List.all_cons, Bool.and_eq_true] at h
    obtain ⟨ps, e1, e2⟩ := marked_pr h.2
    have hd := h.1
    unfold markedB at hd
    split at hd
    · rename_i a b
      rw [Bool.and_eq_true] at hd
      obtain ⟨x, rfl⟩ := name_str hd.1
      exact ⟨(x, b) :: ps, by rw [List.map_cons, ← e1], by rw [List.map_cons, List.map_cons, ← e2]; rfl⟩
    · cases hd
theorem e_stockD {k : Nat} {S : Store} {d : D} (h : gd S 3 d = true) : callF pg (k + 4) "is_stock" [d] S = .ok (.bl (stkB d), S) := by
  refine eq_ok (call_ok (ρ := [some d, none]) fn_c_is_stock rfl rfl (ss_cons (ite_ok ?_)))
  by_cases hs : ∃ x, d = .tup x
  · obtain ⟨ds, rfl⟩ := hs
    by_cases h1 : 1 ≤ ds.length
    · have d1 : decide ((1 : Int) ≤ (ds.length : Int)) = true := decide_eq_true (by omega)
      have e1 : decide (1 ≤ ds.length) = true := decide_eq_true h1
      by_cases h2 : ds.length ≤ 4
      · have d2 : decide ((ds.length : Int) ≤ (4 : Int)) = true := decide_eq_true (by omega)
        have e2 : decide (ds.length ≤ 4) = true := decide_eq_true h2
        wp_walk using ty_tt, gl_ms, len_t, d1, d2
        rw [compL_id (p := markedB) fun x hx => by simp only [w_okb, w_bb, w_var, w_con, w_glo, w_tup, w_lst, w_dct, w_bin, w_not, w_and, w_or, w_cmp, w_chain, w_ix, w_call, w_blt, w_mth, w_comp, w_sl, w_rev, w_neg, w_nil, w_cons, w_and1, w_and2, w_or1, w_or2, w_asg, w_exp, w_ret, w_anm, w_asub, w_orv, w_dcn0, w_dcn1, w_whl, w_callv, w_wipe1, w_wipe2, Ok.ok_iff, subTy, List.getElem?_cons_zero, List.getElem?_cons_succ, List.set_cons_succ, List.set_cons_zero, if_true, Bool.false_eq_true, if_false, Option.map_some, Bool.not_true, Bool.not_false, Bool.true_or, Bool.or_true, Bool.false_or, Bool.or_false, Bool.true_and, Bool.and_true, Bool.false_and, Bool.and_false, eq_self, decide_true, decide_false, beq_self_eq_true, of_some, litD_f, litD_t, bin_add, bin_sub, bin_band, cmp_lti, cmp_lts, cmp_le, cmp_gt, cmp_ge, cmp_none, cmp_nnone, cmp_true, cmp_ntrue, ofB_some, cmp_in, cmp_nin, nonD_non, nonD_s, nonD_t, nonD_i, nonD_l, nonD_r, nonD_b, deref_s, deref_t, deref_l, deref_i, deref_b, deref_n, ok_s, ok_i, ok_b, ok_n, mem_s, flat_s, flat_i, flat_b, flat_n, ix_s, ix_t, ix_l, items_t, items_l, len_s, len_t2, len_t4, len_l, tuple_s, tuple_t, tuple_l, list_s, list_t, list_l, blt_max, blt_min, blt_all, blt_any, ty_s, ty_t, ty_l, ty_i, ty_b, ty_n, rec_join, rec_idx, rec_idxT, tupOnly_t, blt_int1, it_s, it_t, it_l, compI_sq, forI_sq, bind1, rev_s, rev_t, rev_l, blt_inrg, blt_ninrg, rec_upr, bind2, sl_t, sl_s, sl_l, part_i, eq_ss, eq_ii, eq_bb, eq_tn, eq_tc, eq_tc0, eq_t0c, in_nil, in_cons, in_strs, in_sgn, flat_map, all_true, cmp_eq_ii, cmp_eq_ss, cmp_eq_bb, cmp_ne_ii, cmp_ne_ss, bin_shrn, mem_strs, mem_strl, atI_0, atI_1, atI_2, atI_3, e_markedD (k := k) (gd_it h x hx)]]
        wp_walk using blt_all
        cases ha : ds.all markedB with
        | true =>
          obtain ⟨ps, hx, hy⟩ := marked_pr ha
          have hl : (ps.map (·.1)).length ≤ 16777216 := by rw [← hy, List.length_map]; omega
          have e : callF pg (k + 3) "sounds_of" [.tup ds] S = .ok (.tup ((ps.map (·.1)).map .str), S) := by
            refine eq_ok (call_ok (ρ := [some (.tup ds), none, none]) fn_c_sounds_of rfl rfl (ss_cons ?_))
            rw [hx]
            simp only [w_okb, w_bb, w_var, w_con, w_glo, w_tup, w_lst, w_dct, w_bin, w_not, w_and, w_or, w_cmp, w_chain, w_ix, w_call, w_blt, w_mth, w_comp, w_sl, w_rev, w_neg, w_nil, w_cons, w_and1, w_and2, w_or1, w_or2, w_asg, w_exp, w_ret, w_anm, w_asub, w_orv, w_dcn0, w_dcn1, w_whl, w_callv, w_wipe1, w_wipe2, Ok.ok_iff, subTy, List.getElem?_cons_zero, List.getElem?_cons_succ, List.set_cons_succ, List.set_cons_zero, if_true, Bool.false_eq_true, if_false, Option.map_some, Bool.not_true, Bool.not_false, Bool.true_or, Bool.or_true, Bool.false_or, Bool.or_false, Bool.true_and, Bool.and_true, Bool.false_and, Bool.and_false, eq_self, decide_true, decide_false, beq_self_eq_true, of_some, litD_f, litD_t, bin_add, bin_sub, bin_band, cmp_lti, cmp_lts, cmp_le, cmp_gt, cmp_ge, cmp_none, cmp_nnone, cmp_true, cmp_ntrue, ofB_some, cmp_in, cmp_nin, nonD_non, nonD_s, nonD_t, nonD_i, nonD_l, nonD_r, nonD_b, deref_s, deref_t, deref_l, deref_i, deref_b, deref_n, ok_s, ok_i, ok_b, ok_n, mem_s, flat_s, flat_i, flat_b, flat_n, ix_s, ix_t, ix_l, items_t, items_l, len_s, len_t2, len_t4, len_l, tuple_s, tuple_t, tuple_l, list_s, list_t, list_l, blt_max, blt_min, blt_all, blt_any, ty_s, ty_t, ty_l, ty_i, ty_b, ty_n, rec_join, rec_idx, rec_idxT, tupOnly_t, blt_int1, it_s, it_t, it_l, compI_sq, forI_sq, bind1, rev_s, rev_t, rev_l, blt_inrg, blt_ninrg, rec_upr, bind2, sl_t, sl_s, sl_l, part_i, eq_ss, eq_ii, eq_bb, eq_tn, eq_tc, eq_tc0, eq_t0c, in_nil, in_cons, in_strs, in_sgn, flat_map, all_true, cmp_eq_ii, cmp_eq_ss, cmp_eq_bb, cmp_ne_ii, cmp_ne_ss, bin_shrn, mem_strs, mem_strl, atI_0, atI_1, atI_2, atI_3]
            rw [compL_map (i := fun p : List Char × D => D.tup [.str p.1, p.2]) (g := fun p => .str p.1) fun p _ => by simp only [w_okb, w_bb, w_var, w_con, w_glo, w_tup, w_lst, w_dct, w_bin, w_not, w_and, w_or, w_cmp, w_chain, w_ix, w_call, w_blt, w_mth, w_comp, w_sl, w_rev, w_neg, w_nil, w_cons, w_and1, w_and2, w_or1, w_or2, w_asg, w_exp, w_ret, w_anm, w_asub, w_orv, w_dcn0, w_dcn1, w_whl, w_callv, w_wipe1, w_wipe2, Ok.ok_iff, subTy, List.getElem?_cons_zero, List.getElem?_cons_succ, List.set_cons_succ, List.set_cons_zero, if_true, Bool.false_eq_true, if_false, Option.map_some, Bool.not_true, Bool.not_false, Bool.true_or, Bool.or_true, Bool.false_or, Bool.or_false, Bool.true_and, Bool.and_true, Bool.false_and, Bool.and_false, eq_self, decide_true, decide_false, beq_self_eq_true, of_some, litD_f, litD_t, bin_add, bin_sub, bin_band, cmp_lti, cmp_lts, cmp_le, cmp_gt, cmp_ge, cmp_none, cmp_nnone, cmp_true, cmp_ntrue, ofB_some, cmp_in, cmp_nin, nonD_non, nonD_s, nonD_t, nonD_i, nonD_l, nonD_r, nonD_b, deref_s, deref_t, deref_l, deref_i, deref_b, deref_n, ok_s, ok_i, ok_b, ok_n, mem_s, flat_s, flat_i, flat_b, flat_n, ix_s, ix_t, ix_l, items_t, items_l, len_s, len_t2, len_t4, len_l, tuple_s, tuple_t, tuple_l, list_s, list_t, list_l, blt_max, blt_min, blt_all, blt_any, ty_s, ty_t, ty_l, ty_i, ty_b, ty_n, rec_join, rec_idx, rec_idxT, tupOnly_t, blt_int1, it_s, it_t, it_l, compI_sq, forI_sq, bind1, rev_s, rev_t, rev_l, blt_inrg, blt_ninrg, rec_upr, bind2, sl_t, sl_s, sl_l, part_i, eq_ss, eq_ii, eq_bb, eq_tn, eq_tc, eq_tc0, eq_t0c, in_nil, in_cons, in_strs, in_sgn, flat_map, all_true, cmp_eq_ii, cmp_eq_ss, cmp_eq_bb, cmp_ne_ii, cmp_ne_ss, bin_shrn, mem_strs, mem_strl, atI_0, atI_1, atI_2, atI_3]]
            simp only [w_okb, w_bb, w_var, w_con, w_glo, w_tup, w_lst, w_dct, w_bin, w_not, w_and, w_or, w_cmp, w_chain, w_ix, w_call, w_blt, w_mth, w_comp, w_sl, w_rev, w_neg, w_nil, w_cons, w_and1, w_and2, w_or1, w_or2, w_asg, w_exp, w_ret, w_anm, w_asub, w_orv, w_dcn0, w_dcn1, w_whl, w_callv, w_wipe1, w_wipe2, Ok.ok_iff, subTy, List.getElem?_cons_zero, List.getElem?_cons_succ, List.set_cons_succ, List.set_cons_zero, if_true, Bool.false_eq_true, if_false, Option.map_some, Bool.not_true, Bool.not_false, Bool.true_or, Bool.or_true, Bool.false_or, Bool.or_false, Bool.true_and, Bool.and_true, Bool.false_and, Bool.and_false, eq_self, decide_true, decide_false, beq_self_eq_true, of_some, litD_f, litD_t, bin_add, bin_sub, bin_band, cmp_lti, cmp_lts, cmp_le, cmp_gt, cmp_ge, cmp_none, cmp_nnone, cmp_true, cmp_ntrue, ofB_some, cmp_in, cmp_nin, nonD_non, nonD_s, nonD_t, nonD_i, nonD_l, nonD_r, nonD_b, deref_s, deref_t, deref_l, deref_i, deref_b, deref_n, ok_s, ok_i, ok_b, ok_n, mem_s, flat_s, flat_i, flat_b, flat_n, ix_s, ix_t, ix_l, items_t, items_l, len_s, len_t2, len_t4, len_l, tuple_s, tuple_t, tuple_l, list_s, list_t, list_l, blt_max, blt_min, blt_all, blt_any, ty_s, ty_t, ty_l, ty_i, ty_b, ty_n, rec_join, rec_idx, rec_idxT, tupOnly_t, blt_int1, it_s, it_t, it_l, compI_sq, forI_sq, bind1, rev_s, rev_t, rev_l, blt_inrg, blt_ninrg, rec_upr, bind2, sl_t, sl_s, sl_l, part_i, eq_ss, eq_ii, eq_bb, eq_tn, eq_tc, eq_tc0, eq_t0c, in_nil, in_cons, in_strs, in_sgn, flat_map, all_true, cmp_eq_ii, cmp_eq_ss, cmp_eq_bb, cmp_ne_ii, cmp_ne_ss, bin_shrn, mem_strs, mem_strl, atI_0, atI_1, atI_2, atI_3]
            refine nrt (rt ?_)
            rw [List.map_map]
            rfl
          wp_walk using e, e_is_rising (k := k + 2) (xs := ps.map (·.1)) (.inl rfl) hl
          simp only [stkB, e1, e2, ha, Bool.true_and, hy]
        | false =>
          wp_walk
          simp only [stkB, ha, Bool.and_false, Bool.false_and]
      · have d2 : decide ((ds.length : Int) ≤ (4 : Int)) = false := decide_eq_false (by omega)
        have e2 : decide (ds.length ≤ 4) = false := decide_eq_false h2
        wp_walk using ty_tt, gl_ms, len_t, d1, d2
        simp only [stkB, e2, Bool.and_false, Bool.false_and]
    · have d1 : decide ((1 : Int) ≤ (ds.length : Int)) = false := decide_eq_false (by omega)
      have e1 : decide (1 ≤ ds.length) = false := decide_eq_false h1
      wp_walk using ty_tt, gl_ms, len_t, d1
      simp only [stkB, e1, Bool.false_and]
  · have hn : ∀ x, d ≠ .tup x := fun x e => hs ⟨x, e⟩
    obtain ⟨t, ht⟩ := gd_ty h
    have e : stkB d = false := by
      cases d <;> first | rfl | exact absurd rfl (hn _)
    wp_walk using ty_of ht, nt_of ht hn, ty_ti
    rw [e]
end Z

set_option Elab.async false
set_option linter.all false
set_option maxRecDepth 100000
set_option maxHeartbeats 8000000
namespace Z
open PySem L2 PySem.Spec PyProof.Rows
local macro_rules
  | `(tactic| wp_walk using $ts,*) => `(tactic| ((try simp only [w_okb, w_bb, w_var, w_con, w_glo, w_tup, w_lst, w_dct, w_bin, w_not, w_and, w_or, w_cmp, w_chain, w_ix, w_call, w_blt, w_mth, w_comp, w_sl, w_rev, w_neg, w_nil, w_cons, w_and1, w_and2, w_or1, w_or2, w_asg, w_exp, w_ret, w_anm, w_asub, w_orv, w_dcn0, w_dcn1, w_whl, w_callv, w_wipe1, w_wipe2, Ok.ok_iff, subTy, List.getElem?_cons_zero, List.getElem?_cons_succ, List.set_cons_succ, List.set_cons_zero, if_true, Bool.false_eq_true, if_false, Option.map_some, Bool.not_true, Bool.not_false, Bool.true_or, Bool.or_true, Bool.false_or, Bool.or_false, Bool.true_and, Bool.and_true, Bool.false_and, Bool.and_false, eq_self, decide_true, decide_false, beq_self_eq_true, of_some, litD_f, litD_t, bin_add, bin_sub, bin_band, cmp_lti, cmp_lts, cmp_le, cmp_gt, cmp_ge, cmp_none, cmp_nnone, cmp_true, cmp_ntrue, ofB_some, cmp_in, cmp_nin, nonD_non, nonD_s, nonD_t, nonD_i, nonD_l, nonD_r, nonD_b, deref_s, deref_t, deref_l, deref_i, deref_b, deref_n, ok_s, ok_i, ok_b, ok_n, mem_s, flat_s, flat_i, flat_b, flat_n, ix_s, ix_t, ix_l, items_t, items_l, len_s, len_t2, len_t4, len_l, tuple_s, tuple_t, tuple_l, list_s, list_t, list_l, blt_max, blt_min, blt_all, blt_any, ty_s, ty_t, ty_l, ty_i, ty_b, ty_n, rec_join, rec_idx, rec_idxT, tupOnly_t, blt_int1, it_s, it_t, it_l, compI_sq, forI_sq, bind1, rev_s, rev_t, rev_l, blt_inrg, blt_ninrg, rec_upr, bind2, sl_t, sl_s, sl_l, part_i, eq_ss, eq_ii, eq_bb, eq_tn, eq_tc, eq_tc0, eq_t0c, in_nil, in_cons, in_strs, in_sgn, flat_map, all_true, cmp_eq_ii, cmp_eq_ss, cmp_eq_bb, cmp_ne_ii, cmp_ne_ss, bin_shrn, mem_strs, mem_strl, atI_0, atI_1, atI_2, atI_3, $[$ts:term],*]); repeat' (first | (with_reducible refine nx ?_) | (with_reducible refine nrt ?_) | (with_reducible refine rt ?_) | (with_reducible refine i_t ?_) | (with_reducible refine i_f ?_) | (with_reducible refine ss_nil ?_) | (with_reducible refine ss_cons (ite_ok ?_)) | (with_reducible refine ss_cons (fo_ok ?_)) | (with_reducible refine ss_cons ?_) | ((first | (with_reducible refine okE ?_) | (with_reducible refine okS ?_) | (with_reducible refine okEs ?_)); simp only [w_okb, w_bb, w_var, w_con, w_glo, w_tup, w_lst, w_dct, w_bin, w_not, w_and, w_or, w_cmp, w_chain, w_ix, w_call, w_blt, w_mth, w_comp, w_sl, w_rev, w_neg, w_nil, w_cons, w_and1, w_and2, w_or1, w_or2, w_asg, w_exp, w_ret, w_anm, w_asub, w_orv, w_dcn0, w_dcn1, w_whl, w_callv, w_wipe1, w_wipe2, Ok.ok_iff, subTy, List.getElem?_cons_zero, List.getElem?_cons_succ, List.set_cons_succ, List.set_cons_zero, if_true, Bool.false_eq_true, if_false, Option.map_some, Bool.not_true, Bool.not_false, Bool.true_or, Bool.or_true, Bool.false_or, Bool.or_false, Bool.true_and, Bool.and_true, Bool.false_and, Bool.and_false, eq_self, decide_true, decide_false, beq_self_eq_true, of_some, litD_f, litD_t, bin_add, bin_sub, bin_band, cmp_lti, cmp_lts, cmp_le, cmp_gt, cmp_ge, cmp_none, cmp_nnone, cmp_true, cmp_ntrue, ofB_some, cmp_in, cmp_nin, nonD_non, nonD_s, nonD_t, nonD_i, nonD_l, nonD_r, nonD_b, deref_s, deref_t, deref_l, deref_i, deref_b, deref_n, ok_s, ok_i, ok_b, ok_n, mem_s, flat_s, flat_i, flat_b, flat_n, ix_s, ix_t, ix_l, items_t, items_l, len_s, len_t2, len_t4, len_l, tuple_s, tuple_t, tuple_l, list_s, list_t, list_l, blt_max, blt_min, blt_all, blt_any, ty_s, ty_t, ty_l, ty_i, ty_b, ty_n, rec_join, rec_idx, rec_idxT, tupOnly_t, blt_int1, it_s, it_t, it_l, compI_sq, forI_sq, bind1, rev_s, rev_t, rev_l, blt_inrg, blt_ninrg, rec_upr, bind2, sl_t, sl_s, sl_l, part_i, eq_ss, eq_ii, eq_bb, eq_tn, eq_tc, eq_tc0, eq_t0c, in_nil, in_cons, in_strs, in_sgn, flat_map, all_true, cmp_eq_ii, cmp_eq_ss, cmp_eq_bb, cmp_ne_ii, cmp_ne_ss, bin_shrn, mem_strs, mem_strl, atI_0, atI_1, atI_2, atI_3, $[$ts:term],*]))))
  | `(tactic| wp_walk) => `(tactic| wp_walk using w_nil)
/-! marks drawn -/
def knownAt (t : Nat) : List (List Char) := [(small26.drop t ++ small26.take t).take 1, (small26.drop t ++ small26.take t).take 3, ((small26.drop t ++ small26.take t).drop 4).take 5, ((small26.drop t ++ small26.take t).drop 9).take 8, ((small26.drop t ++ small26.take t).drop 20).take 2]
theorem known_ok : ∀ t, t < 26 → (knownAt t).Nodup ∧ (∀ w ∈ knownAt t, nameB (.str w) = true) := by decide +kernel
theorem cut_both {A : Type} (xs : List A) (a b : Nat) (h : a ≤ b) (hb : b ≤ xs.length) : cut xs (some (a : Int)) (some (b : Int)) = (xs.drop a).take (b - a) := by
  unfold cut
  show (xs.drop (HT.sIx xs.length 0 (some (a : Int)))).take (HT.sIx xs.length xs.length (some (b : Int)) - HT.sIx xs.length 0 (some (a : Int))) = _
  rw [HT.sIx_nat, HT.sIx_nat, Nat.min_eq_left hb, Nat.min_eq_left (Nat.le_trans h hb)]
theorem cut_tk {A : Type} (xs : List A) (j : Nat) : cut xs none (some (j : Int)) = xs.take j := by
  unfold cut
  show (xs.drop 0).take (HT.sIx xs.length xs.length (some (j : Int)) - 0) = _
  rw [HT.sIx_nat, List.drop_zero, Nat.sub_zero]
  by_cases h : j ≤ xs.length
  · rw [Nat.min_eq_left h]
  · rw [Nat.min_eq_right (by omega), List.take_length, List.take_of_length_le (by omega)]
theorem cut_dr {A : Type} (xs : List A) (j : Nat) : cut xs (some (j : Int)) none = xs.drop j := by
  unfold cut
  show (xs.drop (HT.sIx xs.length 0 (some (j : Int)))).take (xs.length - HT.sIx xs.length 0 (some (j : Int))) = _
  rw [HT.sIx_nat]
  by_cases h : j ≤ xs.length
  · rw [Nat.min_eq_left h, List.take_of_length_le (by rw [List.length_drop]; omega)]
  · rw [Nat.min_eq_right (by omega), List.drop_length, List.drop_of_length_le (by omega)]
    simp
theorem e_marks {k n : Nat} {S : Store} (h : Pk n S) : Ok (callF pg (k + 2) "_law_marks" [.ref n] S) fun p => ∃ t, t < 26 ∧ p.1 = .lst ((knownAt t).map .str) ∧ Fr1 n S p.2 := by
  refine call_ok (ρ := [some (.ref n), none, none]) fn_c_law_marks rfl rfl ?_
  unfold c_law_marks
  wp_walk
  refine Ok.bind (e_take (k := k) h (by decide) (by decide)) ?_
  rintro ⟨_, S1⟩ ⟨t, ht, rfl, f1⟩
  have ht : t < 26 := by omega
  have f1 : Fr1 n S S1 := f1
  have c1 : cut ['a', 'b', 'c', 'd', 'e', 'f', 'g', 'h', 'i', 'j', 'k', 'l', 'm', 'n', 'o', 'p', 'q', 'r', 's', 't', 'u', 'v', 'w', 'x', 'y', 'z'] (some (t : Int)) none = small26.drop t := cut_dr _ t
  have c2 : cut ['a', 'b', 'c', 'd', 'e', 'f', 'g', 'h', 'i', 'j', 'k', 'l', 'm', 'n', 'o', 'p', 'q', 'r', 's', 't', 'u', 'v', 'w', 'x', 'y', 'z'] none (some (t : Int)) = small26.take t := cut_tk _ t
  have hl : (small26.drop t ++ small26.take t).length = 26 := by
    rw [List.length_append, List.length_drop, List.length_take]
    have : small26.length = 26 := rfl
    omega
  have ad : ∀ S : Store, binD .add (.str (small26.drop t)) (.str (small26.take t)) S = .ok (.str (small26.drop t ++ small26.take t), S) := fun S => adds_ok (by rw [← List.length_append]; omega)
  wp_walk using c1, c2, ad
  generalize hL : small26.drop t ++ small26.take t = L at hl ⊢
  have d1 : cut L none (some 1) = L.take 1 := cut_tk L 1
  have d2 : cut L none (some 3) = L.take 3 := cut_tk L 3
  have d3 : cut L (some 4) (some 9) = (L.drop 4).take 5 := cut_both L 4 9 (by omega) (by omega)
  have d4 : cut L (some 9) (some 17) = (L.drop 9).take 8 := cut_both L 9 17 (by omega) (by omega)
  have d5 : cut L (some 20) (some 22) = (L.drop 20).take 2 := cut_both L 20 22 (by omega) (by omega)
  wp_walk using d1, d2, d3, d4, d5
  refine ⟨t, ht, ?_, f1⟩
  unfold knownAt
  rw [hL]
  rfl
/-! the stock -/
structure GS (st : Stk) : Prop where
  dr : Drawn (st.map (·.1))
  mks : ∀ p ∈ st, marksB (.tup (p.2.map .str)) = true
theorem rise_take {xs : List (List Char)} {n : Nat} (h : Rise xs) : Rise (xs.take n) := List.Pairwise.sublist (List.take_sublist _ _) h
theorem nodup_pick {xs : List (List Char)} (h : xs.Nodup) (h5 : xs.length = 5) {r : Nat} : (((List.range 5).filter fun k => bit r k).map fun k => xs.getD k []).Nodup := by
  have hnd : ((List.range 5).filter fun k => bit r k).Pairwise (fun a c => a ≠ c) := List.Pairwise.sublist List.filter_sublist List.nodup_range
  refine List.pairwise_map.mpr (List.Pairwise.imp_of_mem (fun {a c} ha hc hne e => hne ?_) hnd)
  have ha := List.mem_range.mp (List.mem_filter.mp ha).1
  have hc := List.mem_range.mp (List.mem_filter.mp hc).1
  rw [List.getD_eq_getElem?_getD, List.getD_eq_getElem?_getD, List.getElem?_eq_getElem (by omega), List.getElem?_eq_getElem (by omega)] at e
  exact (List.getElem_inj h).mp e
theorem marks_good {t r : Nat} (ht : t < 26) : marksB (.tup ((marksG (knownAt t) r).map .str)) = true := by
  obtain ⟨hn, hw⟩ := known_ok t ht
  have h5 : (knownAt t).length = 5 := rfl
  have hr : Rise (marksG (knownAt t) r) := rise_take (sortS_rise _ (nodup_pick hn h5))
  have hl := marksG_len (known := knownAt t) (r := r)
  have hm : ∀ w ∈ marksG (knownAt t) r, nameB (.str w) = true := by
    intro w hw2
    have hw2 := (sortS_perm _).mem_iff.mp (List.mem_of_mem_take hw2)
    obtain ⟨k, hk, rfl⟩ := List.mem_map.mp hw2
    have hk := List.mem_range.mp (List.mem_filter.mp hk).1
    rw [List.getD_eq_getElem?_getD, List.getElem?_eq_getElem (by omega)]
    exact hw _ (List.getElem_mem _)
  have e1 : ((marksG (knownAt t) r).map D.str).map strOf = marksG (knownAt t) r := by
    rw [List.map_map]
    exact List.map_id _
  have e2 : ((marksG (knownAt t) r).map D.str).all nameB = true := by
    rw [List.all_map, List.all_eq_true]
    exact hm
  have e3 : decide (((marksG (knownAt t) r).map D.str).length ≤ 4) = true := decide_eq_true (by rw [List.length_map]; exact hl)
  show (decide (((marksG (knownAt t) r).map D.str).length ≤ 4) && ((marksG (knownAt t) r).map D.str).all nameB && risB (((marksG (knownAt t) r).map D.str).map strOf)) = true
  rw [e1, e2, e3, risB_true hr]
  rfl
theorem e_stk {k n : Nat} {S : Store} (h : Pk n S) : Ok (callF pg (k + 3) "_law_stock" [.ref n] S) fun p => ∃ st, GS st ∧ p.1 = stockD st ∧ Fr1 n S p.2 := by
  refine call_ok (ρ := [some (.ref n), none, none, none, none, none, none, none]) fn_c_law_stock rfl rfl ?_
  unfold c_law_stock
  wp_walk
  refine Ok.bind (e_drawn (k := k) h) ?_
  rintro ⟨_, S1⟩ ⟨ss, hs, rfl, f1⟩
  have f1 : Fr1 n S S1 := f1
  wp_walk
  refine Ok.bind (e_marks (k := k) f1.pk) ?_
  rintro ⟨_, S1'⟩ ⟨t, ht, rfl, f1'⟩
  have f1' : Fr1 n S1 S1' := f1'
  wp_walk
  have hn := f1'.pk.lt
  have f2 : Fr1 n S1' (S1' ++ [.lst []]) := Fr1.push f1'.pk
  refine fo_ it_s ((stockG_loop (k := k + 1) (known := knownAt t) (m0 := S1'.length) rfl f2.pk (by simp) (by omega) (by have := hs.le; omega)).mono ?_)
  rintro ⟨_, _, S2⟩ ⟨rfl, st, _, rfl, h1, h2, h3, h4, h5, h6, x4, x5, x6, x7, rfl⟩
  have h6 : S2[S1'.length]? = some (.lst (st.map sndD)) := h6
  wp_walk using tuple_r h6
  refine ⟨st, ⟨by rw [h4]; exact hs, fun p hp => ?_⟩, rfl, (f1.trans f1').trans ⟨h1, ?_, fun m a b => ?_⟩⟩
  · obtain ⟨r, _, e⟩ := h5 p hp
    rw [e]
    exact marks_good ht
  · have h2 : (S1' ++ [O.lst []]).length ≤ S2.length := h2
    rw [List.length_append] at h2
    show S1'.length ≤ S2.length
    omega
  · rw [h3 m a (by omega) (by simp; omega)]
    exact f2.old m a b
/-! what is no stock -/
theorem snd_marked {st : Stk} (g : GS st) {p : Char × List (List Char)} (h : p ∈ st) : markedB (sndD p) = true := by
  have h1 : nameB (.str [p.1]) = true := by
    have := g.dr.sm p.1 (List.mem_map.mpr ⟨p, h, rfl⟩)
    unfold nameB
    simp [this]
  show (nameB (.str [p.1]) && (decide (([p.1] : List Char).length = 1) && marksB (.tup (p.2.map .str)))) = true
  rw [h1, g.mks p h]
  rfl
theorem snd_of {xs : Stk} : (xs.map sndD).map sndOf = (xs.map (·.1)).map fun c => [c] := by
  rw [List.map_map, List.map_map]
  rfl
theorem stk_take {st : Stk} (g : GS st) {n : Nat} (h1 : 1 ≤ n) : stkB (.tup ((st.take n).map sndD)) = true := by
  have hp := g.dr.pos
  have hl := g.dr.le
  rw [List.length_map] at hp hl
  have e1 : decide (1 ≤ ((st.take n).map sndD).length) = true := decide_eq_true (by rw [List.length_map, List.length_take]; omega)
  have e2 : decide (((st.take n).map sndD).length ≤ 4) = true := decide_eq_true (by rw [List.length_map, List.length_take]; omega)
  have e3 : ((st.take n).map sndD).all markedB = true := by
    rw [List.all_map, List.all_eq_true]
    exact fun p hp => snd_marked g (List.mem_of_mem_take hp)
  have e4 : risB (((st.take n).map sndD).map sndOf) = true := by
    rw [snd_of, List.map_take, List.map_take]
    exact risB_true (rise_take g.dr.ri)
  show (decide (1 ≤ ((st.take n).map sndD).length) && decide (((st.take n).map sndD).length ≤ 4) && ((st.take n).map sndD).all markedB && risB (((st.take n).map sndD).map sndOf)) = true
  rw [e1, e2, e3, e4]
  rfl
theorem stk_any {ds : List D} {d : D} (h : d ∈ ds) (hd : markedB d = false) : stkB (.tup ds) = false := by
  have : ds.all markedB = false := List.all_eq_false.mpr ⟨d, h, by rw [hd]; exact Bool.false_ne_true⟩
  show (decide (1 ≤ ds.length) && decide (ds.length ≤ 4) && ds.all markedB && risB (ds.map sndOf)) = false
  rw [this, Bool.and_false, Bool.false_and]
theorem stk_ris {ds : List D} (h : risB (ds.map sndOf) = false) : stkB (.tup ds) = false := by
  show (decide (1 ≤ ds.length) && decide (ds.length ≤ 4) && ds.all markedB && risB (ds.map sndOf)) = false
  rw [h, Bool.and_false]
theorem ris_rise : ∀ {xs : List (List Char)}, risB xs = true → Rise xs
  | [], _ => List.Pairwise.nil
  | [x], _ => List.pairwise_singleton _ _
  | x :: y :: xs, h => by
    unfold risB at h
    rw [List.all_eq_true] at h
    have h0 : ltS x y = true := by simpa using h 0 (List.mem_range.mpr (by simp))
    have ih : Rise (y :: xs) := ris_rise (by
      unfold risB
      rw [List.all_eq_true]
      intro k hk
      have hk := List.mem_range.mp hk
      have := h (k + 1) (List.mem_range.mpr (by simp at hk ⊢; omega))
      simpa using this)
    refine List.pairwise_cons.mpr ⟨fun z hz => ?_, ih⟩
    rcases List.mem_cons.mp hz with rfl | hz
    · exact h0
    · exact ltS_trans h0 ((List.pairwise_cons.mp ih).1 z hz)
theorem ris_no {xs ys : List (List Char)} {a c : List Char} (ha : a ∈ xs) (hc : c ∈ ys) (h : ltS a c = false) : risB (xs ++ ys) = false := by
  cases e : risB (xs ++ ys) with
  | false => rfl
  | true =>
    have := (List.pairwise_append.mp (ris_rise e)).2.2 a ha c hc
    rw [h] at this
    cases this
theorem mkd_name {a b : D} (h : nameB a = false) : markedB (.tup [a, b]) = false := by
  show (nameB a && _) = false
  rw [h]
  rfl
theorem mkd_two {x y : Char} {w : List Char} {b : D} : markedB (.tup [.str (x :: y :: w), b]) = false := by
  show (nameB _ && (decide ((x :: y :: w).length = 1) && marksB b)) = false
  have : decide ((x :: y :: w).length = 1) = false := decide_eq_false (by simp)
  rw [this, Bool.false_and, Bool.and_false]
theorem mkd_marks {a b : D} (h : marksB b = false) : markedB (.tup [a, b]) = false := by
  show (nameB a && (decide ((strOf a).length = 1) && marksB b)) = false
  rw [h, Bool.and_false, Bool.and_false]
/-! things and the store -/
def tyR (R : List Nat) : D → Bool
  | .fn _ => false
  | .ref n => decide (n ∈ R)
  | _ => true
def gdR (R : List Nat) : Nat → D → Bool
  | 0, d => tyR R d
  | n + 1, d => tyR R d && match d with
    | .tup ds => ds.all (gdR R n)
    | _ => true
def DR (S : Store) (R : List Nat) : Prop := ∀ n ∈ R, S[n]? = some (.dct [] [])
theorem ty_R {S : Store} {R : List Nat} (h : DR S R) {d : D} (hd : tyR R d = true) : (tyD S d).isSome = true := by
  cases d with
  | ref n =>
    have hn : n ∈ R := of_decide_eq_true hd
    simp only [tyD, h n hn]
    rfl
  | fn _ => cases hd
  | _ => rfl
theorem gd_R {S : Store} {R : List Nat} (h : DR S R) : ∀ (n : Nat) {d : D}, gdR R n d = true → gd S n d = true
  | 0, d, hd => ty_R h hd
  | n + 1, d, hd => by
    unfold gdR at hd
    rw [Bool.and_eq_true] at hd
    unfold gd
    rw [ty_R h hd.1, Bool.true_and]
    cases d with
    | tup ds =>
      have hd2 : ds.all (gdR R n) = true := hd.2
      rw [List.all_eq_true] at hd2 ⊢
      exact fun x hx => gd_R h n (hd2 x hx)
    | _ => rfl
theorem tyR_mono {R R' : List Nat} (h : ∀ n ∈ R, n ∈ R') {d : D} (hd : tyR R d = true) : tyR R' d = true := by
  cases d with
  | ref n => exact decide_eq_true (h n (of_decide_eq_true hd))
  | fn _ => cases hd
  | _ => rfl
theorem gdR_mono {R R' : List Nat} (h : ∀ n ∈ R, n ∈ R') : ∀ (n : Nat) {d : D}, gdR R n d = true → gdR R' n d = true
  | 0, d, hd => tyR_mono h hd
  | n + 1, d, hd => by
    unfold gdR at hd ⊢
    rw [Bool.and_eq_true] at hd
    rw [tyR_mono h hd.1, Bool.true_and]
    cases d with
    | tup ds =>
      have hd2 : ds.all (gdR R n) = true := hd.2
      show ds.all (gdR R' n) = true
      rw [List.all_eq_true] at hd2 ⊢
      exact fun x hx => gdR_mono h n (hd2 x hx)
    | _ => rfl
theorem gdR_tup {R : List Nat} {n : Nat} {ds : List D} (h : ∀ d ∈ ds, gdR R n d = true) : gdR R (n + 1) (.tup ds) = true := by
  unfold gdR
  show (true && ds.all (gdR R n)) = true
  rw [Bool.true_and, List.all_eq_true]
  exact h
theorem gdR_str {R : List Nat} {n : Nat} {x : List Char} : gdR R n (.str x) = true := by cases n <;> rfl
theorem gdR_snd {R : List Nat} {p : Char × List (List Char)} : gdR R 2 (sndD p) = true := by
  refine gdR_tup (fm_cons gdR_str (fm_cons (gdR_tup fun d hd => ?_) fm_nil))
  obtain ⟨w, _, rfl⟩ := List.mem_map.mp hd
  exact gdR_str
def BadD (R : List Nat) (d : D) : Prop := gdR R 3 d = true ∧ stkB d = false
structure Acc (S : Store) (m : Nat) (R : List Nat) (ds : List D) : Prop where
  at' : S[m]? = some (.lst ds)
  bad : ∀ d ∈ ds, BadD R d
  dc : DR S R
  ne : m ∉ R
  sz : ds.length ≤ 500
theorem Acc.app {S : Store} {m : Nat} {R : List Nat} {ds : List D} {d : D} (a : Acc S m R ds) (h : BadD R d) (hz : ds.length + 1 ≤ 500) : Acc (S.set m (.lst (ds ++ [d]))) m R (ds ++ [d]) := by
  have hm := (List.getElem?_eq_some_iff.mp a.at').1
  refine ⟨by rw [List.getElem?_set_self hm], fm_app a.bad (fm_cons h fm_nil), fun n hn => ?_, a.ne, by rw [List.length_append]; exact hz⟩
  have hne : m ≠ n := fun e => a.ne (by rw [e]; exact hn)
  rw [List.getElem?_set_ne hne]
  exact a.dc n hn
theorem Acc.lt {S : Store} {m : Nat} {R : List Nat} {ds : List D} (a : Acc S m R ds) : ∀ n ∈ R, n < S.length := fun n hn => (List.getElem?_eq_some_iff.mp (a.dc n hn)).1
theorem Acc.add {S : Store} {m : Nat} {R : List Nat} {ds es : List D} (a : Acc S m R ds) (h : ∀ d ∈ es, BadD R d) (hz : ds.length + es.length ≤ 500) : Acc (S ++ [.lst (ds ++ es)]) S.length R (ds ++ es) := by
  refine ⟨by simp, fm_app a.bad h, fun n hn => ?_, fun hn => Nat.lt_irrefl _ (a.lt _ hn), by rw [List.length_append]; exact hz⟩
  rw [List.getElem?_append_left (a.lt n hn)]
  exact a.dc n hn
theorem Acc.dct {S : Store} {m : Nat} {R : List Nat} {ds : List D} (a : Acc S m R ds) : Acc (S ++ [.dct [] []]) m (S.length :: R) ds := by
  have hm := (List.getElem?_eq_some_iff.mp a.at').1
  refine ⟨by rw [List.getElem?_append_left hm]; exact a.at', fun d hd => ⟨gdR_mono (fun n hn => List.mem_cons_of_mem _ hn) 3 (a.bad d hd).1, (a.bad d hd).2⟩, fun n hn => ?_, fun hn => ?_, a.sz⟩
  · rcases List.mem_cons.mp hn with rfl | hn
    · simp
    · rw [List.getElem?_append_left (a.lt n hn)]
      exact a.dc n hn
  · rcases List.mem_cons.mp hn with e | hn
    · omega
    · exact a.ne hn
end Z

set_option Elab.async false
set_option linter.all false
set_option maxRecDepth 100000
set_option maxHeartbeats 20000000
namespace Z
open PySem L2 PySem.Spec PyProof.Rows
local macro_rules
  | `(tactic| wp_walk using $ts,*) => `(tactic| ((try simp only [w_okb, w_bb, w_var, w_con, w_glo, w_tup, w_lst, w_dct, w_bin, w_not, w_and, w_or, w_cmp, w_chain, w_ix, w_call, w_blt, w_mth, w_comp, w_sl, w_rev, w_neg, w_nil, w_cons, w_and1, w_and2, w_or1, w_or2, w_asg, w_exp, w_ret, w_anm, w_asub, w_orv, w_dcn0, w_dcn1, w_whl, w_callv, w_wipe1, w_wipe2, Ok.ok_iff, subTy, List.getElem?_cons_zero, List.getElem?_cons_succ, List.set_cons_succ, List.set_cons_zero, if_true, Bool.false_eq_true, if_false, Option.map_some, Bool.not_true, Bool.not_false, Bool.true_or, Bool.or_true, Bool.false_or, Bool.or_false, Bool.true_and, Bool.and_true, Bool.false_and, Bool.and_false, eq_self, decide_true, decide_false, beq_self_eq_true, of_some, litD_f, litD_t, bin_add, bin_sub, bin_band, cmp_lti, cmp_lts, cmp_le, cmp_gt, cmp_ge, cmp_none, cmp_nnone, cmp_true, cmp_ntrue, ofB_some, cmp_in, cmp_nin, nonD_non, nonD_s, nonD_t, nonD_i, nonD_l, nonD_r, nonD_b, deref_s, deref_t, deref_l, deref_i, deref_b, deref_n, ok_s, ok_i, ok_b, ok_n, mem_s, flat_s, flat_i, flat_b, flat_n, ix_s, ix_t, ix_l, items_t, items_l, len_s, len_t2, len_t4, len_l, tuple_s, tuple_t, tuple_l, list_s, list_t, list_l, blt_max, blt_min, blt_all, blt_any, ty_s, ty_t, ty_l, ty_i, ty_b, ty_n, rec_join, rec_idx, rec_idxT, tupOnly_t, blt_int1, it_s, it_t, it_l, compI_sq, forI_sq, bind1, rev_s, rev_t, rev_l, blt_inrg, blt_ninrg, rec_upr, bind2, sl_t, sl_s, sl_l, part_i, eq_ss, eq_ii, eq_bb, eq_tn, eq_tc, eq_tc0, eq_t0c, in_nil, in_cons, in_strs, in_sgn, flat_map, all_true, cmp_eq_ii, cmp_eq_ss, cmp_eq_bb, cmp_ne_ii, cmp_ne_ss, bin_shrn, mem_strs, mem_strl, atI_0, atI_1, atI_2, atI_3, $[$ts:term],*]); repeat' (first | (with_reducible refine nx ?_) | (with_reducible refine nrt ?_) | (with_reducible refine rt ?_) | (with_reducible refine i_t ?_) | (with_reducible refine i_f ?_) | (with_reducible refine ss_nil ?_) | (with_reducible refine ss_cons (ite_ok ?_)) | (with_reducible refine ss_cons (fo_ok ?_)) | (with_reducible refine ss_cons ?_) | ((first | (with_reducible refine okE ?_) | (with_reducible refine okS ?_) | (with_reducible refine okEs ?_)); simp only [w_okb, w_bb, w_var, w_con, w_glo, w_tup, w_lst, w_dct, w_bin, w_not, w_and, w_or, w_cmp, w_chain, w_ix, w_call, w_blt, w_mth, w_comp, w_sl, w_rev, w_neg, w_nil, w_cons, w_and1, w_and2, w_or1, w_or2, w_asg, w_exp, w_ret, w_anm, w_asub, w_orv, w_dcn0, w_dcn1, w_whl, w_callv, w_wipe1, w_wipe2, Ok.ok_iff, subTy, List.getElem?_cons_zero, List.getElem?_cons_succ, List.set_cons_succ, List.set_cons_zero, if_true, Bool.false_eq_true, if_false, Option.map_some, Bool.not_true, Bool.not_false, Bool.true_or, Bool.or_true, Bool.false_or, Bool.or_false, Bool.true_and, Bool.and_true, Bool.false_and, Bool.and_false, eq_self, decide_true, decide_false, beq_self_eq_true, of_some, litD_f, litD_t, bin_add, bin_sub, bin_band, cmp_lti, cmp_lts, cmp_le, cmp_gt, cmp_ge, cmp_none, cmp_nnone, cmp_true, cmp_ntrue, ofB_some, cmp_in, cmp_nin, nonD_non, nonD_s, nonD_t, nonD_i, nonD_l, nonD_r, nonD_b, deref_s, deref_t, deref_l, deref_i, deref_b, deref_n, ok_s, ok_i, ok_b, ok_n, mem_s, flat_s, flat_i, flat_b, flat_n, ix_s, ix_t, ix_l, items_t, items_l, len_s, len_t2, len_t4, len_l, tuple_s, tuple_t, tuple_l, list_s, list_t, list_l, blt_max, blt_min, blt_all, blt_any, ty_s, ty_t, ty_l, ty_i, ty_b, ty_n, rec_join, rec_idx, rec_idxT, tupOnly_t, blt_int1, it_s, it_t, it_l, compI_sq, forI_sq, bind1, rev_s, rev_t, rev_l, blt_inrg, blt_ninrg, rec_upr, bind2, sl_t, sl_s, sl_l, part_i, eq_ss, eq_ii, eq_bb, eq_tn, eq_tc, eq_tc0, eq_t0c, in_nil, in_cons, in_strs, in_sgn, flat_map, all_true, cmp_eq_ii, cmp_eq_ss, cmp_eq_bb, cmp_ne_ii, cmp_ne_ss, bin_shrn, mem_strs, mem_strl, atI_0, atI_1, atI_2, atI_3, $[$ts:term],*]))))
  | `(tactic| wp_walk) => `(tactic| wp_walk using w_nil)
theorem Acc.new {S : Store} {R : List Nat} {ds : List D} (h : DR S R) (hb : ∀ d ∈ ds, BadD R d) (hz : ds.length ≤ 500) : Acc (S ++ [.lst ds]) S.length R ds := by
  have lt : ∀ n ∈ R, n < S.length := fun n hn => (List.getElem?_eq_some_iff.mp (h n hn)).1
  refine ⟨by simp, hb, fun n hn => ?_, fun hn => Nat.lt_irrefl _ (lt _ hn), hz⟩
  rw [List.getElem?_append_left (lt n hn)]
  exact h n hn
theorem addm_ok {S : Store} {m : Nat} {R : List Nat} {ds es : List D} (a : Acc S m R ds) (hz : es.length ≤ 100) : binD .addm (.ref m) (.lst es) S = .ok (.ref S.length, S ++ [.lst (ds ++ es)]) := bin_addmr a.at' (by have := a.sz; rw [sizeL]; omega)
theorem addm_step {S : Store} {m : Nat} {R : List Nat} {ds es : List D} {A : Type} {f : D × Store → Z.R A} {Q : A → Prop} (a : Acc S m R ds) (hz : es.length ≤ 100) (hz2 : ds.length + es.length ≤ 400) (hb : ∀ d ∈ es, BadD R d) (h : ∀ S' m' ds', Acc S' m' R ds' → ds'.length = ds.length + es.length → Ok (f (.ref m', S')) Q) : Ok ((binD .addm (.ref m) (.lst es) S).bind f) Q := by
  rw [addm_ok a hz, Z.R.ok_bind]
  exact h _ _ _ (a.add hb (by omega)) (List.length_append ..)
theorem gdR_MD {R : List Nat} {n : Nat} {ms : List (List Char)} : gdR R (n + 1) (.tup (ms.map .str)) = true := gdR_tup fun d hd => by
  obtain ⟨w, _, rfl⟩ := List.mem_map.mp hd
  exact gdR_str
theorem gdR_sn {R : List Nat} {n : Nat} {p : Char × List (List Char)} : gdR R (n + 2) (sndD p) = true := gdR_tup (fm_cons gdR_str (fm_cons gdR_MD fm_nil))
theorem gdR_T {R : List Nat} {n : Nat} {xs : Stk} : gdR R (n + 3) (.tup (xs.map sndD)) = true := gdR_tup fun d hd => by
  obtain ⟨p, _, rfl⟩ := List.mem_map.mp hd
  exact gdR_sn
theorem mkd_T {st : Stk} : markedB (.tup (st.map sndD)) = false := by
  match st with
  | [] => rfl
  | [_] => rfl
  | [_, _] => exact mkd_name rfl
  | _ :: _ :: _ :: _ => rfl
theorem bad_head {R : List Nat} {xs : Stk} {a b : D} (ha : gdR R 1 a = true) (hb : gdR R 1 b = true) (h : markedB (.tup [a, b]) = false) : BadD R (.tup (.tup [a, b] :: xs.map sndD)) := by
  refine ⟨gdR_tup (fm_cons (gdR_tup (fm_cons ha (fm_cons hb fm_nil))) fun d hd => ?_), stk_any (by simp) h⟩
  obtain ⟨p, _, rfl⟩ := List.mem_map.mp hd
  exact gdR_sn
theorem bad_snoc {R : List Nat} {xs : Stk} {a : D} (ha : gdR R 2 a = true) (h : markedB a = false) : BadD R (.tup (xs.map sndD ++ [a])) := by
  refine ⟨gdR_tup (fm_app (fun d hd => ?_) (fm_cons ha fm_nil)), stk_any (by simp) h⟩
  obtain ⟨p, _, rfl⟩ := List.mem_map.mp hd
  exact gdR_sn
theorem bad_two {R : List Nat} {xs ys : Stk} {a c : Char} (ha : a ∈ xs.map (·.1)) (hc : c ∈ ys.map (·.1)) (h : ltS [a] [c] = false) : BadD R (.tup (xs.map sndD ++ ys.map sndD)) := by
  rw [← List.map_append]
  refine ⟨gdR_T, stk_ris ?_⟩
  rw [snd_of, List.map_append, List.map_append]
  exact ris_no (List.mem_map.mpr ⟨a, ha, rfl⟩) (List.mem_map.mpr ⟨c, hc, rfl⟩) h
def appB (e : E) : List Z.S := [.exp (.mth .append (.var 1) [.bin .add (.tup [e]) (.sl false (.var 0) true (.con (.int 1)) false .no)])]
theorem app_loop {G : Ctx} {e : E} {mk : D → D} {T rest odds ds : List D} {m : Nat} {R : List Nat} {S : Store} {x2 x3 x4 x5 x6 : Option D} (a : Acc S m R ds) (hz : ds.length + odds.length ≤ 400)
    (he : ∀ odd S', evE G e [some (.tup T), some (.ref m), some odd, x3, x4, x5, x6] S' = .ok (mk odd, S')) (hcut : cut T (some 1) none = rest) (hl : rest.length ≤ 100) (hb : ∀ d ∈ odds, BadD R (.tup (mk d :: rest))) :
    Ok (forL (fun d ρ s => evSs G (appB e) (ρ.set 2 (some d)) s) odds [some (.tup T), some (.ref m), x2, x3, x4, x5, x6] S) fun p => p.1 = .nx ∧ ∃ x2 ds', Acc p.2.2 m R ds' ∧ ds'.length = ds.length + odds.length ∧ p.2.1 = [some (.tup T), some (.ref m), x2, x3, x4, x5, x6] := by
  refine (forL_inv (fun pre ρ S' => ∃ x2 ds', Acc S' m R ds' ∧ ds'.length = ds.length + pre.length ∧ ρ = [some (.tup T), some (.ref m), x2, x3, x4, x5, x6]) ⟨_, ds, a, rfl, rfl⟩ ?_).mono ?_
  · rintro pre d post _ S' ee ⟨x2, ds', a', hl', rfl⟩
    have hd : d ∈ odds := by rw [ee]; simp
    have hpl : pre.length + 1 ≤ odds.length := by rw [ee]; simp
    have hsz : ds'.length < sizeLine := by have := a'.sz; rw [sizeL]; omega
    have ad : ∀ S : Store, binD .add (.tup [mk d]) (.tup rest) S = .ok (.tup (mk d :: rest), S) := fun S => addt_ok (ds := [mk d]) (es := rest) (by simp only [List.length_cons, List.length_nil]; omega)
    unfold appB
    wp_walk using he, hcut, ad, rec_app a'.at', mth_app a'.at' hsz
    exact ⟨.inl rfl, _, _, a'.app (hb d hd) (by omega), by rw [List.length_append, List.length_append, hl']; simp; omega, rfl⟩
  · rintro ⟨_, _, _⟩ ⟨rfl, x2, ds', a', hl', rfl⟩
    exact ⟨rfl, _, _, a', hl', rfl⟩
def n_13 : List Z.S := [.ret (.bin .add (.var 1) (.lst false [.blt false .tuple [.comp false [6] [6] true .sq [.con (.str ['a', 'b', 'c', 'd', 'e'])] (.con (.bl true)) (.tup [.var 6, .tup []])], .blt false .tuple [.comp false [6] [6] true .sq [.con (.str ['b', 'a'])] (.con (.bl true)) (.tup [.var 6, .tup []])]]))]
def n_12 : List Z.S := .asg (.nm 1) (.bin .addm (.var 1) (.lst false [.tup [.con (.str ['a', 'b'])], .tup [.tup [.con (.str ['a', 'b']), .tup []]], .tup [.con (.str ['a']), .con (.str ['b'])]])) :: n_13
def n_11 : List Z.S := .ite (.cmp .gt (.blt false .len [.var 0]) (.con (.int 1))) [.asg (.nm 1) (.bin .addm (.var 1) (.lst false [.rev (.var 0), .bin .add (.sl false (.var 0) true (.con (.int 1)) false .no) (.sl false (.var 0) false .no true (.con (.int 1)))]))] [] :: n_12
def n_10 : List Z.S := .fo [2] true .sq [.lst false [.tup [.con (.str ['a']), .con (.str ['b']), .con (.str ['c']), .con (.str ['d']), .con (.str ['e'])], .tup [.con (.str ['a', ' ', 'b'])], .tup [.con (.str ['s', 't', 'o', 'p']), .con (.str ['o', 'p', 'e', 'n'])], .dct [] [], .tup [.con (.str ['a']), .con .non], .tup [.con (.str ['a', '1'])], .tup [.con (.str ['a']), .lst false [.con (.str ['b'])]], .tup [.dct [] []]]] [.exp (.mth .append (.var 1) [.bin .add (.tup [.tup [.var 4, .var 2]]) (.sl false (.var 0) true (.con (.int 1)) false .no)])] :: n_11
def n_9 : List Z.S := .fo [2] true .sq [.var 3] [.exp (.mth .append (.var 1) [.bin .add (.tup [.tup [.var 4, .var 2]]) (.sl false (.var 0) true (.con (.int 1)) false .no)])] :: n_10
def n_8 : List Z.S := .asg (.nm 3) (.bin .add (.var 3) (.lst false [.tup [.tup [.con (.str ['a'])]]])) :: n_9
def n_7 : List Z.S := .asg (.nm 3) (.lst false [.blt false .list [.var 5], .con .non, .con (.str ['s', 't', 'o', 'p']), .tup [.con (.str [])], .tup [.con (.str ['A'])], .tup [.con (.str ['a', 'b', 'c', 'd', 'e', 'f', 'g', 'h', 'i'])], .tup [.con (.str ['a']), .con (.str ['a'])], .tup [.con (.str ['b']), .con (.str ['a'])], .tup [.con .non], .tup [.con (.int 7)]]) :: n_8
def n_6 : List Z.S := .fo [2] true .sq [.lst false [.con (.str []), .con (.str ['A']), .con (.str ['a', 'b']), .con (.str ['#']), .con (.str ['0']), .con (.str [' ']), .con .non, .con (.int 7), .tup [.con (.str ['a'])], .lst false [.var 4]]] [.exp (.mth .append (.var 1) [.bin .add (.tup [.tup [.var 2, .var 5]]) (.sl false (.var 0) true (.con (.int 1)) false .no)])] :: n_7
def n_5 : List Z.S := .asg (.nm 1) (.bin .addm (.var 1) (.lst false [.bin .add (.rev (.var 0)) (.var 0)])) :: n_6
def n_4 : List Z.S := .asg (.nm 1) (.bin .addm (.var 1) (.lst false [.bin .add (.var 0) (.tup [.tup []]), .bin .add (.var 0) (.tup [.tup [.con (.str ['z'])]]), .bin .add (.var 0) (.tup [.tup [.con (.str ['z']), .tup [], .tup []]]), .bin .add (.var 0) (.tup [.lst false [.con (.str ['z']), .tup []]])])) :: n_5
def n_3 : List Z.S := .asg (.nm 1) (.bin .addm (.var 1) (.lst false [.bin .add (.var 0) (.tup [.con .non])])) :: n_4
def n_2 : List Z.S := .asg (.nm 1) (.lst true [.con .non, .con (.int 7), .con (.bl true), .con (.str ['-']), .con (.str []), .tup [], .dct [] [], .lst false [.ix (.var 0) (.con (.int 0))], .ix (.var 0) (.con (.int 0)), .tup [.var 0], .blt false .list [.var 0], .bin .add (.var 0) (.sl false (.var 0) false .no true (.con (.int 1)))]) :: n_3
def n_1 : List Z.S := .asg (.tp [.nm 4, .nm 5]) (.ix (.var 0) (.con (.int 0))) :: n_2
theorem n__is : c_law_no_stocks = ⟨1, 7, n_1⟩ := rfl
theorem e_no {k : Nat} {S : Store} {st : Stk} (g : GS st) : Ok (callF pg (k + 1) "_law_no_stocks" [.tup (st.map sndD)] S) fun p => ∃ ds R, p.1 = .lst ds ∧ DR p.2 R ∧ ∀ d ∈ ds, BadD R d := by
  have hpos := g.dr.pos
  have hle := g.dr.le
  have hri := g.dr.ri
  rw [List.length_map] at hpos hle
  match hst : st, hpos with
  | p0 :: tl, _ =>
  rw [← hst] at g hle hri ⊢
  have hlT : (st.map sndD).length = st.length := List.length_map _
  have h0 : atI (st.map sndD) 0 = some (.tup [sD p0.1, .tup (p0.2.map .str)]) := by
    rw [hst, List.map_cons, atI_0]
    rfl
  have cR : cut (st.map sndD) (some 1) none = (st.drop 1).map sndD := by
    rw [List.map_drop]
    exact cut_dr _ 1
  have cL : cut (st.map sndD) none (some 1) = (st.take 1).map sndD := by
    rw [List.map_take]
    exact cut_tk _ 1
  have a1 : ∀ (d : D) (S : Store), binD .add (.tup (st.map sndD)) (.tup [d]) S = .ok (.tup (st.map sndD ++ [d]), S) := fun d S => addt_ok (by simp only [List.length_cons, List.length_nil]; omega)
  have a2 : ∀ S : Store, binD .add (.tup (st.map sndD)) (.tup ((st.take 1).map sndD)) S = .ok (.tup (st.map sndD ++ (st.take 1).map sndD), S) := fun S => addt_ok (by rw [List.length_map, List.length_map, List.length_take]; omega)
  have a3 : ∀ S : Store, binD .add (.tup (st.map sndD).reverse) (.tup (st.map sndD)) S = .ok (.tup ((st.map sndD).reverse ++ st.map sndD), S) := fun S => addt_ok (by rw [List.length_reverse]; omega)
  have a5 : ∀ S : Store, binD .add (.tup ((st.drop 1).map sndD)) (.tup ((st.take 1).map sndD)) S = .ok (.tup ((st.drop 1).map sndD ++ (st.take 1).map sndD), S) := fun S => addt_ok (by rw [List.length_map, List.length_map, List.length_take, List.length_drop]; omega)
  have hlr : ((st.drop 1).map sndD).length ≤ 100 := by rw [List.length_map, List.length_drop]; omega
  have el : ∀ (xs : List D) (S : Store), bltD false .list [.tup xs] S = .ok (.lst xs, S) := fun xs S => rfl
  have m0 : p0.1 ∈ st.map (·.1) := by rw [hst]; simp
  have m1 : p0.1 ∈ (st.take 1).map (·.1) := by rw [hst]; simp
  have m2 : p0.1 ∈ st.reverse.map (·.1) := by rw [hst]; simp
  have irr : ltS [p0.1] [p0.1] = false := ltS_irr _
  have tT : ∀ {R : List Nat}, BadD R (.tup (st.map sndD ++ (st.take 1).map sndD)) := bad_two m0 m1 irr
  have tV : ∀ {R : List Nat}, BadD R (.tup ((st.map sndD).reverse ++ st.map sndD)) := by
    intro R
    rw [← List.map_reverse]
    exact bad_two m2 m0 irr
  have tS : ∀ {R : List Nat}, BadD R (.tup [.tup (st.map sndD)]) := ⟨gdR_tup (fm_cons (gdR_tup fun d hd => by
    obtain ⟨p, _, rfl⟩ := List.mem_map.mp hd
    exact gdR_tup (fm_cons gdR_str (fm_cons rfl fm_nil))) fm_nil), stk_any (d := .tup (st.map sndD)) (by simp) (mkd_T (st := st))⟩
  have t0 : ∀ {R : List Nat}, BadD R (.tup [sD p0.1, .tup (p0.2.map .str)]) := ⟨gdR_tup (fm_cons gdR_str (fm_cons gdR_MD fm_nil)), stk_any (d := sD p0.1) (by simp) rfl⟩
  refine call_ok (ρ := [some (.tup (st.map sndD)), none, none, none, none, none, none]) (fn_c_law_no_stocks.trans (congrArg some n__is)) rfl rfl ?_
  unfold n_1
  wp_walk using h0, asg_tp2
  unfold n_2
  wp_walk using h0, cL, a2, el
  have A0 := Acc.new (S := S ++ [.dct [] []]) (R := [S.length]) (ds := [.non, .int 7, .bl true, .str ['-'], .str [], .tup [], .ref S.length, .lst [.tup [sD p0.1, .tup (p0.2.map .str)]], .tup [sD p0.1, .tup (p0.2.map .str)], .tup [.tup (st.map sndD)], .lst (st.map sndD), .tup (st.map sndD ++ (st.take 1).map sndD)]) (fun n hn => by rw [List.mem_singleton.mp hn]; simp) (by
    refine fm_cons ⟨rfl, rfl⟩ (fm_cons ⟨rfl, rfl⟩ (fm_cons ⟨rfl, rfl⟩ (fm_cons ⟨rfl, rfl⟩ (fm_cons ⟨rfl, rfl⟩ (fm_cons ⟨rfl, rfl⟩ (fm_cons ⟨?_, rfl⟩ (fm_cons ⟨rfl, rfl⟩ (fm_cons t0 (fm_cons tS (fm_cons ⟨rfl, rfl⟩ (fm_cons tT fm_nil)))))))))))
    unfold gdR tyR
    simp) (by simp)
  unfold n_3
  wp_walk using a1
  refine addm_step A0 (by simp) (by simp) (fm_cons (bad_snoc rfl rfl) fm_nil) fun S1 m1 ds1 A1 l1 => ?_
  have l1 : ds1.length = 13 := l1
  clear A0
  wp_walk
  unfold n_4
  wp_walk using a1
  refine addm_step A1 (by simp) (by simp; omega) (fm_cons (bad_snoc rfl rfl) (fm_cons (bad_snoc rfl rfl) (fm_cons (bad_snoc rfl rfl) (fm_cons (bad_snoc rfl rfl) fm_nil)))) fun S2 m2 ds2 A2 l2 => ?_
  have l2 : ds2.length = ds1.length + 4 := l2
  wp_walk
  unfold n_5
  wp_walk using rev_t, a3
  refine addm_step A2 (by simp) (by simp; omega) (fm_cons tV fm_nil) fun S3 m3 ds3 A3 l3 => ?_
  have l3 : ds3.length = ds2.length + 1 := l3
  wp_walk
  unfold n_6
  refine ss_cons (fo_ok ?_)
  simp only [w_okb, w_bb, w_var, w_con, w_glo, w_tup, w_lst, w_dct, w_bin, w_not, w_and, w_or, w_cmp, w_chain, w_ix, w_call, w_blt, w_mth, w_comp, w_sl, w_rev, w_neg, w_nil, w_cons, w_and1, w_and2, w_or1, w_or2, w_asg, w_exp, w_ret, w_anm, w_asub, w_orv, w_dcn0, w_dcn1, w_whl, w_callv, w_wipe1, w_wipe2, Ok.ok_iff, subTy, List.getElem?_cons_zero, List.getElem?_cons_succ, List.set_cons_succ, List.set_cons_zero, if_true, Bool.false_eq_true, if_false, Option.map_some, Bool.not_true, Bool.not_false, Bool.true_or, Bool.or_true, Bool.false_or, Bool.or_false, Bool.true_and, Bool.and_true, Bool.false_and, Bool.and_false, eq_self, decide_true, decide_false, beq_self_eq_true, of_some, litD_f, litD_t, bin_add, bin_sub, bin_band, cmp_lti, cmp_lts, cmp_le, cmp_gt, cmp_ge, cmp_none, cmp_nnone, cmp_true, cmp_ntrue, ofB_some, cmp_in, cmp_nin, nonD_non, nonD_s, nonD_t, nonD_i, nonD_l, nonD_r, nonD_b, deref_s, deref_t, deref_l, deref_i, deref_b, deref_n, ok_s, ok_i, ok_b, ok_n, mem_s, flat_s, flat_i, flat_b, flat_n, ix_s, ix_t, ix_l, items_t, items_l, len_s, len_t2, len_t4, len_l, tuple_s, tuple_t, tuple_l, list_s, list_t, list_l, blt_max, blt_min, blt_all, blt_any, ty_s, ty_t, ty_l, ty_i, ty_b, ty_n, rec_join, rec_idx, rec_idxT, tupOnly_t, blt_int1, it_s, it_t, it_l, compI_sq, forI_sq, bind1, rev_s, rev_t, rev_l, blt_inrg, blt_ninrg, rec_upr, bind2, sl_t, sl_s, sl_l, part_i, eq_ss, eq_ii, eq_bb, eq_tn, eq_tc, eq_tc0, eq_t0c, in_nil, in_cons, in_strs, in_sgn, flat_map, all_true, cmp_eq_ii, cmp_eq_ss, cmp_eq_bb, cmp_ne_ii, cmp_ne_ss, bin_shrn, mem_strs, mem_strl, atI_0, atI_1, atI_2, atI_3]
  refine fo_ it_l ((app_loop (e := .tup [.var 2, .var 5]) (mk := fun d => .tup [d, .tup (p0.2.map .str)]) A3 (by simp; omega) (fun odd S' => by simp only [w_okb, w_bb, w_var, w_con, w_glo, w_tup, w_lst, w_dct, w_bin, w_not, w_and, w_or, w_cmp, w_chain, w_ix, w_call, w_blt, w_mth, w_comp, w_sl, w_rev, w_neg, w_nil, w_cons, w_and1, w_and2, w_or1, w_or2, w_asg, w_exp, w_ret, w_anm, w_asub, w_orv, w_dcn0, w_dcn1, w_whl, w_callv, w_wipe1, w_wipe2, Ok.ok_iff, subTy, List.getElem?_cons_zero, List.getElem?_cons_succ, List.set_cons_succ, List.set_cons_zero, if_true, Bool.false_eq_true, if_false, Option.map_some, Bool.not_true, Bool.not_false, Bool.true_or, Bool.or_true, Bool.false_or, Bool.or_false, Bool.true_and, Bool.and_true, Bool.false_and, Bool.and_false, eq_self, decide_true, decide_false, beq_self_eq_true, of_some, litD_f, litD_t, bin_add, bin_sub, bin_band, cmp_lti, cmp_lts, cmp_le, cmp_gt, cmp_ge, cmp_none, cmp_nnone, cmp_true, cmp_ntrue, ofB_some, cmp_in, cmp_nin, nonD_non, nonD_s, nonD_t, nonD_i, nonD_l, nonD_r, nonD_b, deref_s, deref_t, deref_l, deref_i, deref_b, deref_n, ok_s, ok_i, ok_b, ok_n, mem_s, flat_s, flat_i, flat_b, flat_n, ix_s, ix_t, ix_l, items_t, items_l, len_s, len_t2, len_t4, len_l, tuple_s, tuple_t, tuple_l, list_s, list_t, list_l, blt_max, blt_min, blt_all, blt_any, ty_s, ty_t, ty_l, ty_i, ty_b, ty_n, rec_join, rec_idx, rec_idxT, tupOnly_t, blt_int1, it_s, it_t, it_l, compI_sq, forI_sq, bind1, rev_s, rev_t, rev_l, blt_inrg, blt_ninrg, rec_upr, bind2, sl_t, sl_s, sl_l, part_i, eq_ss, eq_ii, eq_bb, eq_tn, eq_tc, eq_tc0, eq_t0c, in_nil, in_cons, in_strs, in_sgn, flat_map, all_true, cmp_eq_ii, cmp_eq_ss, cmp_eq_bb, cmp_ne_ii, cmp_ne_ss, bin_shrn, mem_strs, mem_strl, atI_0, atI_1, atI_2, atI_3]) cR hlr ?_).mono ?_)
  · refine fm_cons (bad_head rfl gdR_MD (mkd_name rfl)) (fm_cons (bad_head rfl gdR_MD (mkd_name rfl)) (fm_cons (bad_head rfl gdR_MD mkd_two) (fm_cons (bad_head rfl gdR_MD (mkd_name rfl)) (fm_cons (bad_head rfl gdR_MD (mkd_name rfl)) (fm_cons (bad_head rfl gdR_MD (mkd_name rfl)) (fm_cons (bad_head rfl gdR_MD (mkd_name rfl)) (fm_cons (bad_head rfl gdR_MD (mkd_name rfl)) (fm_cons (bad_head rfl gdR_MD (mkd_name rfl)) (fm_cons (bad_head rfl gdR_MD (mkd_name rfl)) fm_nil)))))))))
  rintro ⟨_, _, S4⟩ ⟨rfl, x2, ds4, A4, l4, rfl⟩
  have A4 : Acc S4 m3 _ ds4 := A4
  have l4 : ds4.length = ds3.length + 10 := l4
  refine nx ?_
  unfold n_7
  refine ss_cons ?_
  simp only [w_okb, w_bb, w_var, w_con, w_glo, w_tup, w_lst, w_dct, w_bin, w_not, w_and, w_or, w_cmp, w_chain, w_ix, w_call, w_blt, w_mth, w_comp, w_sl, w_rev, w_neg, w_nil, w_cons, w_and1, w_and2, w_or1, w_or2, w_asg, w_exp, w_ret, w_anm, w_asub, w_orv, w_dcn0, w_dcn1, w_whl, w_callv, w_wipe1, w_wipe2, Ok.ok_iff, subTy, List.getElem?_cons_zero, List.getElem?_cons_succ, List.set_cons_succ, List.set_cons_zero, if_true, Bool.false_eq_true, if_false, Option.map_some, Bool.not_true, Bool.not_false, Bool.true_or, Bool.or_true, Bool.false_or, Bool.or_false, Bool.true_and, Bool.and_true, Bool.false_and, Bool.and_false, eq_self, decide_true, decide_false, beq_self_eq_true, of_some, litD_f, litD_t, bin_add, bin_sub, bin_band, cmp_lti, cmp_lts, cmp_le, cmp_gt, cmp_ge, cmp_none, cmp_nnone, cmp_true, cmp_ntrue, ofB_some, cmp_in, cmp_nin, nonD_non, nonD_s, nonD_t, nonD_i, nonD_l, nonD_r, nonD_b, deref_s, deref_t, deref_l, deref_i, deref_b, deref_n, ok_s, ok_i, ok_b, ok_n, mem_s, flat_s, flat_i, flat_b, flat_n, ix_s, ix_t, ix_l, items_t, items_l, len_s, len_t2, len_t4, len_l, tuple_s, tuple_t, tuple_l, list_s, list_t, list_l, blt_max, blt_min, blt_all, blt_any, ty_s, ty_t, ty_l, ty_i, ty_b, ty_n, rec_join, rec_idx, rec_idxT, tupOnly_t, blt_int1, it_s, it_t, it_l, compI_sq, forI_sq, bind1, rev_s, rev_t, rev_l, blt_inrg, blt_ninrg, rec_upr, bind2, sl_t, sl_s, sl_l, part_i, eq_ss, eq_ii, eq_bb, eq_tn, eq_tc, eq_tc0, eq_t0c, in_nil, in_cons, in_strs, in_sgn, flat_map, all_true, cmp_eq_ii, cmp_eq_ss, cmp_eq_bb, cmp_ne_ii, cmp_ne_ss, bin_shrn, mem_strs, mem_strl, atI_0, atI_1, atI_2, atI_3, el]
  refine nx ?_
  unfold n_8
  refine ss_cons ?_
  simp only [w_okb, w_bb, w_var, w_con, w_glo, w_tup, w_lst, w_dct, w_bin, w_not, w_and, w_or, w_cmp, w_chain, w_ix, w_call, w_blt, w_mth, w_comp, w_sl, w_rev, w_neg, w_nil, w_cons, w_and1, w_and2, w_or1, w_or2, w_asg, w_exp, w_ret, w_anm, w_asub, w_orv, w_dcn0, w_dcn1, w_whl, w_callv, w_wipe1, w_wipe2, Ok.ok_iff, subTy, List.getElem?_cons_zero, List.getElem?_cons_succ, List.set_cons_succ, List.set_cons_zero, if_true, Bool.false_eq_true, if_false, Option.map_some, Bool.not_true, Bool.not_false, Bool.true_or, Bool.or_true, Bool.false_or, Bool.or_false, Bool.true_and, Bool.and_true, Bool.false_and, Bool.and_false, eq_self, decide_true, decide_false, beq_self_eq_true, of_some, litD_f, litD_t, bin_add, bin_sub, bin_band, cmp_lti, cmp_lts, cmp_le, cmp_gt, cmp_ge, cmp_none, cmp_nnone, cmp_true, cmp_ntrue, ofB_some, cmp_in, cmp_nin, nonD_non, nonD_s, nonD_t, nonD_i, nonD_l, nonD_r, nonD_b, deref_s, deref_t, deref_l, deref_i, deref_b, deref_n, ok_s, ok_i, ok_b, ok_n, mem_s, flat_s, flat_i, flat_b, flat_n, ix_s, ix_t, ix_l, items_t, items_l, len_s, len_t2, len_t4, len_l, tuple_s, tuple_t, tuple_l, list_s, list_t, list_l, blt_max, blt_min, blt_all, blt_any, ty_s, ty_t, ty_l, ty_i, ty_b, ty_n, rec_join, rec_idx, rec_idxT, tupOnly_t, blt_int1, it_s, it_t, it_l, compI_sq, forI_sq, bind1, rev_s, rev_t, rev_l, blt_inrg, blt_ninrg, rec_upr, bind2, sl_t, sl_s, sl_l, part_i, eq_ss, eq_ii, eq_bb, eq_tn, eq_tc, eq_tc0, eq_t0c, in_nil, in_cons, in_strs, in_sgn, flat_map, all_true, cmp_eq_ii, cmp_eq_ss, cmp_eq_bb, cmp_ne_ii, cmp_ne_ss, bin_shrn, mem_strs, mem_strl, atI_0, atI_1, atI_2, atI_3]
  rw [addl_ok]
  rotate_left
  · simp only [List.length_cons, List.length_nil]; omega
  simp only [w_okb, w_bb, w_var, w_con, w_glo, w_tup, w_lst, w_dct, w_bin, w_not, w_and, w_or, w_cmp, w_chain, w_ix, w_call, w_blt, w_mth, w_comp, w_sl, w_rev, w_neg, w_nil, w_cons, w_and1, w_and2, w_or1, w_or2, w_asg, w_exp, w_ret, w_anm, w_asub, w_orv, w_dcn0, w_dcn1, w_whl, w_callv, w_wipe1, w_wipe2, Ok.ok_iff, subTy, List.getElem?_cons_zero, List.getElem?_cons_succ, List.set_cons_succ, List.set_cons_zero, if_true, Bool.false_eq_true, if_false, Option.map_some, Bool.not_true, Bool.not_false, Bool.true_or, Bool.or_true, Bool.false_or, Bool.or_false, Bool.true_and, Bool.and_true, Bool.false_and, Bool.and_false, eq_self, decide_true, decide_false, beq_self_eq_true, of_some, litD_f, litD_t, bin_add, bin_sub, bin_band, cmp_lti, cmp_lts, cmp_le, cmp_gt, cmp_ge, cmp_none, cmp_nnone, cmp_true, cmp_ntrue, ofB_some, cmp_in, cmp_nin, nonD_non, nonD_s, nonD_t, nonD_i, nonD_l, nonD_r, nonD_b, deref_s, deref_t, deref_l, deref_i, deref_b, deref_n, ok_s, ok_i, ok_b, ok_n, mem_s, flat_s, flat_i, flat_b, flat_n, ix_s, ix_t, ix_l, items_t, items_l, len_s, len_t2, len_t4, len_l, tuple_s, tuple_t, tuple_l, list_s, list_t, list_l, blt_max, blt_min, blt_all, blt_any, ty_s, ty_t, ty_l, ty_i, ty_b, ty_n, rec_join, rec_idx, rec_idxT, tupOnly_t, blt_int1, it_s, it_t, it_l, compI_sq, forI_sq, bind1, rev_s, rev_t, rev_l, blt_inrg, blt_ninrg, rec_upr, bind2, sl_t, sl_s, sl_l, part_i, eq_ss, eq_ii, eq_bb, eq_tn, eq_tc, eq_tc0, eq_t0c, in_nil, in_cons, in_strs, in_sgn, flat_map, all_true, cmp_eq_ii, cmp_eq_ss, cmp_eq_bb, cmp_ne_ii, cmp_ne_ss, bin_shrn, mem_strs, mem_strl, atI_0, atI_1, atI_2, atI_3]
  refine nx ?_
  unfold n_9
  refine ss_cons (fo_ok ?_)
  simp only [w_okb, w_bb, w_var, w_con, w_glo, w_tup, w_lst, w_dct, w_bin, w_not, w_and, w_or, w_cmp, w_chain, w_ix, w_call, w_blt, w_mth, w_comp, w_sl, w_rev, w_neg, w_nil, w_cons, w_and1, w_and2, w_or1, w_or2, w_asg, w_exp, w_ret, w_anm, w_asub, w_orv, w_dcn0, w_dcn1, w_whl, w_callv, w_wipe1, w_wipe2, Ok.ok_iff, subTy, List.getElem?_cons_zero, List.getElem?_cons_succ, List.set_cons_succ, List.set_cons_zero, if_true, Bool.false_eq_true, if_false, Option.map_some, Bool.not_true, Bool.not_false, Bool.true_or, Bool.or_true, Bool.false_or, Bool.or_false, Bool.true_and, Bool.and_true, Bool.false_and, Bool.and_false, eq_self, decide_true, decide_false, beq_self_eq_true, of_some, litD_f, litD_t, bin_add, bin_sub, bin_band, cmp_lti, cmp_lts, cmp_le, cmp_gt, cmp_ge, cmp_none, cmp_nnone, cmp_true, cmp_ntrue, ofB_some, cmp_in, cmp_nin, nonD_non, nonD_s, nonD_t, nonD_i, nonD_l, nonD_r, nonD_b, deref_s, deref_t, deref_l, deref_i, deref_b, deref_n, ok_s, ok_i, ok_b, ok_n, mem_s, flat_s, flat_i, flat_b, flat_n, ix_s, ix_t, ix_l, items_t, items_l, len_s, len_t2, len_t4, len_l, tuple_s, tuple_t, tuple_l, list_s, list_t, list_l, blt_max, blt_min, blt_all, blt_any, ty_s, ty_t, ty_l, ty_i, ty_b, ty_n, rec_join, rec_idx, rec_idxT, tupOnly_t, blt_int1, it_s, it_t, it_l, compI_sq, forI_sq, bind1, rev_s, rev_t, rev_l, blt_inrg, blt_ninrg, rec_upr, bind2, sl_t, sl_s, sl_l, part_i, eq_ss, eq_ii, eq_bb, eq_tn, eq_tc, eq_tc0, eq_t0c, in_nil, in_cons, in_strs, in_sgn, flat_map, all_true, cmp_eq_ii, cmp_eq_ss, cmp_eq_bb, cmp_ne_ii, cmp_ne_ss, bin_shrn, mem_strs, mem_strl, atI_0, atI_1, atI_2, atI_3]
  refine fo_ it_l ((app_loop (e := .tup [.var 4, .var 2]) (mk := fun d => .tup [sD p0.1, d]) A4 (by simp; omega) (fun odd S' => by simp only [w_okb, w_bb, w_var, w_con, w_glo, w_tup, w_lst, w_dct, w_bin, w_not, w_and, w_or, w_cmp, w_chain, w_ix, w_call, w_blt, w_mth, w_comp, w_sl, w_rev, w_neg, w_nil, w_cons, w_and1, w_and2, w_or1, w_or2, w_asg, w_exp, w_ret, w_anm, w_asub, w_orv, w_dcn0, w_dcn1, w_whl, w_callv, w_wipe1, w_wipe2, Ok.ok_iff, subTy, List.getElem?_cons_zero, List.getElem?_cons_succ, List.set_cons_succ, List.set_cons_zero, if_true, Bool.false_eq_true, if_false, Option.map_some, Bool.not_true, Bool.not_false, Bool.true_or, Bool.or_true, Bool.false_or, Bool.or_false, Bool.true_and, Bool.and_true, Bool.false_and, Bool.and_false, eq_self, decide_true, decide_false, beq_self_eq_true, of_some, litD_f, litD_t, bin_add, bin_sub, bin_band, cmp_lti, cmp_lts, cmp_le, cmp_gt, cmp_ge, cmp_none, cmp_nnone, cmp_true, cmp_ntrue, ofB_some, cmp_in, cmp_nin, nonD_non, nonD_s, nonD_t, nonD_i, nonD_l, nonD_r, nonD_b, deref_s, deref_t, deref_l, deref_i, deref_b, deref_n, ok_s, ok_i, ok_b, ok_n, mem_s, flat_s, flat_i, flat_b, flat_n, ix_s, ix_t, ix_l, items_t, items_l, len_s, len_t2, len_t4, len_l, tuple_s, tuple_t, tuple_l, list_s, list_t, list_l, blt_max, blt_min, blt_all, blt_any, ty_s, ty_t, ty_l, ty_i, ty_b, ty_n, rec_join, rec_idx, rec_idxT, tupOnly_t, blt_int1, it_s, it_t, it_l, compI_sq, forI_sq, bind1, rev_s, rev_t, rev_l, blt_inrg, blt_ninrg, rec_upr, bind2, sl_t, sl_s, sl_l, part_i, eq_ss, eq_ii, eq_bb, eq_tn, eq_tc, eq_tc0, eq_t0c, in_nil, in_cons, in_strs, in_sgn, flat_map, all_true, cmp_eq_ii, cmp_eq_ss, cmp_eq_bb, cmp_ne_ii, cmp_ne_ss, bin_shrn, mem_strs, mem_strl, atI_0, atI_1, atI_2, atI_3]) cR hlr ?_).mono ?_)
  · refine fm_app (fm_cons (bad_head rfl rfl (mkd_marks rfl)) (fm_cons (bad_head rfl rfl (mkd_marks rfl)) (fm_cons (bad_head rfl rfl (mkd_marks rfl)) (fm_cons (bad_head rfl rfl (mkd_marks rfl)) (fm_cons (bad_head rfl rfl (mkd_marks rfl)) (fm_cons (bad_head rfl rfl (mkd_marks rfl)) (fm_cons (bad_head rfl rfl (mkd_marks rfl)) (fm_cons (bad_head rfl rfl (mkd_marks rfl)) (fm_cons (bad_head rfl rfl (mkd_marks rfl)) (fm_cons (bad_head rfl rfl (mkd_marks rfl)) fm_nil)))))))))) (fm_cons (bad_head rfl rfl (mkd_marks rfl)) fm_nil)
  rintro ⟨_, _, S5⟩ ⟨rfl, x2', ds5, A5, l5, rfl⟩
  have A5 : Acc S5 m3 _ ds5 := A5
  have l5 : ds5.length = ds4.length + 11 := l5
  refine nx ?_
  unfold n_10
  refine ss_cons (fo_ok ?_)
  simp only [w_okb, w_bb, w_var, w_con, w_glo, w_tup, w_lst, w_dct, w_bin, w_not, w_and, w_or, w_cmp, w_chain, w_ix, w_call, w_blt, w_mth, w_comp, w_sl, w_rev, w_neg, w_nil, w_cons, w_and1, w_and2, w_or1, w_or2, w_asg, w_exp, w_ret, w_anm, w_asub, w_orv, w_dcn0, w_dcn1, w_whl, w_callv, w_wipe1, w_wipe2, Ok.ok_iff, subTy, List.getElem?_cons_zero, List.getElem?_cons_succ, List.set_cons_succ, List.set_cons_zero, if_true, Bool.false_eq_true, if_false, Option.map_some, Bool.not_true, Bool.not_false, Bool.true_or, Bool.or_true, Bool.false_or, Bool.or_false, Bool.true_and, Bool.and_true, Bool.false_and, Bool.and_false, eq_self, decide_true, decide_false, beq_self_eq_true, of_some, litD_f, litD_t, bin_add, bin_sub, bin_band, cmp_lti, cmp_lts, cmp_le, cmp_gt, cmp_ge, cmp_none, cmp_nnone, cmp_true, cmp_ntrue, ofB_some, cmp_in, cmp_nin, nonD_non, nonD_s, nonD_t, nonD_i, nonD_l, nonD_r, nonD_b, deref_s, deref_t, deref_l, deref_i, deref_b, deref_n, ok_s, ok_i, ok_b, ok_n, mem_s, flat_s, flat_i, flat_b, flat_n, ix_s, ix_t, ix_l, items_t, items_l, len_s, len_t2, len_t4, len_l, tuple_s, tuple_t, tuple_l, list_s, list_t, list_l, blt_max, blt_min, blt_all, blt_any, ty_s, ty_t, ty_l, ty_i, ty_b, ty_n, rec_join, rec_idx, rec_idxT, tupOnly_t, blt_int1, it_s, it_t, it_l, compI_sq, forI_sq, bind1, rev_s, rev_t, rev_l, blt_inrg, blt_ninrg, rec_upr, bind2, sl_t, sl_s, sl_l, part_i, eq_ss, eq_ii, eq_bb, eq_tn, eq_tc, eq_tc0, eq_t0c, in_nil, in_cons, in_strs, in_sgn, flat_map, all_true, cmp_eq_ii, cmp_eq_ss, cmp_eq_bb, cmp_ne_ii, cmp_ne_ss, bin_shrn, mem_strs, mem_strl, atI_0, atI_1, atI_2, atI_3]
  have A6 := A5.dct.dct
  refine fo_ it_l ((app_loop (e := .tup [.var 4, .var 2]) (mk := fun d => .tup [sD p0.1, d]) A6 (by simp; omega) (fun odd S' => by simp only [w_okb, w_bb, w_var, w_con, w_glo, w_tup, w_lst, w_dct, w_bin, w_not, w_and, w_or, w_cmp, w_chain, w_ix, w_call, w_blt, w_mth, w_comp, w_sl, w_rev, w_neg, w_nil, w_cons, w_and1, w_and2, w_or1, w_or2, w_asg, w_exp, w_ret, w_anm, w_asub, w_orv, w_dcn0, w_dcn1, w_whl, w_callv, w_wipe1, w_wipe2, Ok.ok_iff, subTy, List.getElem?_cons_zero, List.getElem?_cons_succ, List.set_cons_succ, List.set_cons_zero, if_true, Bool.false_eq_true, if_false, Option.map_some, Bool.not_true, Bool.not_false, Bool.true_or, Bool.or_true, Bool.false_or, Bool.or_false, Bool.true_and, Bool.and_true, Bool.false_and, Bool.and_false, eq_self, decide_true, decide_false, beq_self_eq_true, of_some, litD_f, litD_t, bin_add, bin_sub, bin_band, cmp_lti, cmp_lts, cmp_le, cmp_gt, cmp_ge, cmp_none, cmp_nnone, cmp_true, cmp_ntrue, ofB_some, cmp_in, cmp_nin, nonD_non, nonD_s, nonD_t, nonD_i, nonD_l, nonD_r, nonD_b, deref_s, deref_t, deref_l, deref_i, deref_b, deref_n, ok_s, ok_i, ok_b, ok_n, mem_s, flat_s, flat_i, flat_b, flat_n, ix_s, ix_t, ix_l, items_t, items_l, len_s, len_t2, len_t4, len_l, tuple_s, tuple_t, tuple_l, list_s, list_t, list_l, blt_max, blt_min, blt_all, blt_any, ty_s, ty_t, ty_l, ty_i, ty_b, ty_n, rec_join, rec_idx, rec_idxT, tupOnly_t, blt_int1, it_s, it_t, it_l, compI_sq, forI_sq, bind1, rev_s, rev_t, rev_l, blt_inrg, blt_ninrg, rec_upr, bind2, sl_t, sl_s, sl_l, part_i, eq_ss, eq_ii, eq_bb, eq_tn, eq_tc, eq_tc0, eq_t0c, in_nil, in_cons, in_strs, in_sgn, flat_map, all_true, cmp_eq_ii, cmp_eq_ss, cmp_eq_bb, cmp_ne_ii, cmp_ne_ss, bin_shrn, mem_strs, mem_strl, atI_0, atI_1, atI_2, atI_3]) cR hlr ?_).mono ?_)
  · refine fm_cons (bad_head rfl rfl (mkd_marks rfl)) (fm_cons (bad_head rfl rfl (mkd_marks rfl)) (fm_cons (bad_head rfl rfl (mkd_marks rfl)) (fm_cons (bad_head rfl ?_ (mkd_marks rfl)) (fm_cons (bad_head rfl rfl (mkd_marks rfl)) (fm_cons (bad_head rfl rfl (mkd_marks rfl)) (fm_cons (bad_head rfl rfl (mkd_marks rfl)) (fm_cons (bad_head rfl ?_ (mkd_marks rfl)) fm_nil)))))))
    · simp [gdR, tyR]
    · simp [gdR, tyR]
  rintro ⟨_, _, S7⟩ ⟨rfl, x2'', ds7, A7, l7, rfl⟩
  have A7 : Acc S7 m3 _ ds7 := A7
  have l7 : ds7.length = ds5.length + 8 := l7
  generalize (S5 ++ [O.dct [] []]).length :: S5.length :: [S.length] = R at A7
  clear A1 A2 A3 A4 A5 A6
  have fin : ∀ (S : Store) (m : Nat) (ds : List D), Acc S m R ds → ds.length ≤ 200 → Ok (evSs ⟨callF pg k, pg.glo, pg.fuel⟩ n_12 [some (.tup (st.map sndD)), some (.ref m), x2'', some (.lst ([D.lst (p0.2.map .str), .non, .str ['s', 't', 'o', 'p'], .tup [.str []], .tup [.str ['A']], .tup [.str ['a', 'b', 'c', 'd', 'e', 'f', 'g', 'h', 'i']], .tup [.str ['a'], .str ['a']], .tup [.str ['b'], .str ['a']], .tup [.non], .tup [.int 7]] ++ [.tup [.tup [.str ['a']]]])), some (sD p0.1), some (.tup (p0.2.map .str)), none] S) (Rt fun p => ∃ ds R, p.1 = .lst ds ∧ DR p.2 R ∧ ∀ d ∈ ds, BadD R d) := by
    intro S m ds A l
    unfold n_12
    wp_walk
    refine addm_step A (by simp) (by simp; omega) (fm_cons ⟨rfl, rfl⟩ (fm_cons ⟨rfl, rfl⟩ (fm_cons ⟨rfl, rfl⟩ fm_nil))) fun S8 m8 ds8 A8 l8 => ?_
    have l8 : ds8.length = ds.length + 3 := l8
    wp_walk
    unfold n_13
    wp_walk
    rw [compL_map (i := fun c : Char => D.str [c]) (g := fun c => D.tup [.str [c], .tup []]) fun c _ => by simp only [w_okb, w_bb, w_var, w_con, w_glo, w_tup, w_lst, w_dct, w_bin, w_not, w_and, w_or, w_cmp, w_chain, w_ix, w_call, w_blt, w_mth, w_comp, w_sl, w_rev, w_neg, w_nil, w_cons, w_and1, w_and2, w_or1, w_or2, w_asg, w_exp, w_ret, w_anm, w_asub, w_orv, w_dcn0, w_dcn1, w_whl, w_callv, w_wipe1, w_wipe2, Ok.ok_iff, subTy, List.getElem?_cons_zero, List.getElem?_cons_succ, List.set_cons_succ, List.set_cons_zero, if_true, Bool.false_eq_true, if_false, Option.map_some, Bool.not_true, Bool.not_false, Bool.true_or, Bool.or_true, Bool.false_or, Bool.or_false, Bool.true_and, Bool.and_true, Bool.false_and, Bool.and_false, eq_self, decide_true, decide_false, beq_self_eq_true, of_some, litD_f, litD_t, bin_add, bin_sub, bin_band, cmp_lti, cmp_lts, cmp_le, cmp_gt, cmp_ge, cmp_none, cmp_nnone, cmp_true, cmp_ntrue, ofB_some, cmp_in, cmp_nin, nonD_non, nonD_s, nonD_t, nonD_i, nonD_l, nonD_r, nonD_b, deref_s, deref_t, deref_l, deref_i, deref_b, deref_n, ok_s, ok_i, ok_b, ok_n, mem_s, flat_s, flat_i, flat_b, flat_n, ix_s, ix_t, ix_l, items_t, items_l, len_s, len_t2, len_t4, len_l, tuple_s, tuple_t, tuple_l, list_s, list_t, list_l, blt_max, blt_min, blt_all, blt_any, ty_s, ty_t, ty_l, ty_i, ty_b, ty_n, rec_join, rec_idx, rec_idxT, tupOnly_t, blt_int1, it_s, it_t, it_l, compI_sq, forI_sq, bind1, rev_s, rev_t, rev_l, blt_inrg, blt_ninrg, rec_upr, bind2, sl_t, sl_s, sl_l, part_i, eq_ss, eq_ii, eq_bb, eq_tn, eq_tc, eq_tc0, eq_t0c, in_nil, in_cons, in_strs, in_sgn, flat_map, all_true, cmp_eq_ii, cmp_eq_ss, cmp_eq_bb, cmp_ne_ii, cmp_ne_ss, bin_shrn, mem_strs, mem_strl, atI_0, atI_1, atI_2, atI_3]]
    simp only [w_okb, w_bb, w_var, w_con, w_glo, w_tup, w_lst, w_dct, w_bin, w_not, w_and, w_or, w_cmp, w_chain, w_ix, w_call, w_blt, w_mth, w_comp, w_sl, w_rev, w_neg, w_nil, w_cons, w_and1, w_and2, w_or1, w_or2, w_asg, w_exp, w_ret, w_anm, w_asub, w_orv, w_dcn0, w_dcn1, w_whl, w_callv, w_wipe1, w_wipe2, Ok.ok_iff, subTy, List.getElem?_cons_zero, List.getElem?_cons_succ, List.set_cons_succ, List.set_cons_zero, if_true, Bool.false_eq_true, if_false, Option.map_some, Bool.not_true, Bool.not_false, Bool.true_or, Bool.or_true, Bool.false_or, Bool.or_false, Bool.true_and, Bool.and_true, Bool.false_and, Bool.and_false, eq_self, decide_true, decide_false, beq_self_eq_true, of_some, litD_f, litD_t, bin_add, bin_sub, bin_band, cmp_lti, cmp_lts, cmp_le, cmp_gt, cmp_ge, cmp_none, cmp_nnone, cmp_true, cmp_ntrue, ofB_some, cmp_in, cmp_nin, nonD_non, nonD_s, nonD_t, nonD_i, nonD_l, nonD_r, nonD_b, deref_s, deref_t, deref_l, deref_i, deref_b, deref_n, ok_s, ok_i, ok_b, ok_n, mem_s, flat_s, flat_i, flat_b, flat_n, ix_s, ix_t, ix_l, items_t, items_l, len_s, len_t2, len_t4, len_l, tuple_s, tuple_t, tuple_l, list_s, list_t, list_l, blt_max, blt_min, blt_all, blt_any, ty_s, ty_t, ty_l, ty_i, ty_b, ty_n, rec_join, rec_idx, rec_idxT, tupOnly_t, blt_int1, it_s, it_t, it_l, compI_sq, forI_sq, bind1, rev_s, rev_t, rev_l, blt_inrg, blt_ninrg, rec_upr, bind2, sl_t, sl_s, sl_l, part_i, eq_ss, eq_ii, eq_bb, eq_tn, eq_tc, eq_tc0, eq_t0c, in_nil, in_cons, in_strs, in_sgn, flat_map, all_true, cmp_eq_ii, cmp_eq_ss, cmp_eq_bb, cmp_ne_ii, cmp_ne_ss, bin_shrn, mem_strs, mem_strl, atI_0, atI_1, atI_2, atI_3]
    rw [compL_map (i := fun c : Char => D.str [c]) (g := fun c => D.tup [.str [c], .tup []]) fun c _ => by simp only [w_okb, w_bb, w_var, w_con, w_glo, w_tup, w_lst, w_dct, w_bin, w_not, w_and, w_or, w_cmp, w_chain, w_ix, w_call, w_blt, w_mth, w_comp, w_sl, w_rev, w_neg, w_nil, w_cons, w_and1, w_and2, w_or1, w_or2, w_asg, w_exp, w_ret, w_anm, w_asub, w_orv, w_dcn0, w_dcn1, w_whl, w_callv, w_wipe1, w_wipe2, Ok.ok_iff, subTy, List.getElem?_cons_zero, List.getElem?_cons_succ, List.set_cons_succ, List.set_cons_zero, if_true, Bool.false_eq_true, if_false, Option.map_some, Bool.not_true, Bool.not_false, Bool.true_or, Bool.or_true, Bool.false_or, Bool.or_false, Bool.true_and, Bool.and_true, Bool.false_and, Bool.and_false, eq_self, decide_true, decide_false, beq_self_eq_true, of_some, litD_f, litD_t, bin_add, bin_sub, bin_band, cmp_lti, cmp_lts, cmp_le, cmp_gt, cmp_ge, cmp_none, cmp_nnone, cmp_true, cmp_ntrue, ofB_some, cmp_in, cmp_nin, nonD_non, nonD_s, nonD_t, nonD_i, nonD_l, nonD_r, nonD_b, deref_s, deref_t, deref_l, deref_i, deref_b, deref_n, ok_s, ok_i, ok_b, ok_n, mem_s, flat_s, flat_i, flat_b, flat_n, ix_s, ix_t, ix_l, items_t, items_l, len_s, len_t2, len_t4, len_l, tuple_s, tuple_t, tuple_l, list_s, list_t, list_l, blt_max, blt_min, blt_all, blt_any, ty_s, ty_t, ty_l, ty_i, ty_b, ty_n, rec_join, rec_idx, rec_idxT, tupOnly_t, blt_int1, it_s, it_t, it_l, compI_sq, forI_sq, bind1, rev_s, rev_t, rev_l, blt_inrg, blt_ninrg, rec_upr, bind2, sl_t, sl_s, sl_l, part_i, eq_ss, eq_ii, eq_bb, eq_tn, eq_tc, eq_tc0, eq_t0c, in_nil, in_cons, in_strs, in_sgn, flat_map, all_true, cmp_eq_ii, cmp_eq_ss, cmp_eq_bb, cmp_ne_ii, cmp_ne_ss, bin_shrn, mem_strs, mem_strl, atI_0, atI_1, atI_2, atI_3]]
    simp only [w_okb, w_bb, w_var, w_con, w_glo, w_tup, w_lst, w_dct, w_bin, w_not, w_and, w_or, w_cmp, w_chain, w_ix, w_call, w_blt, w_mth, w_comp, w_sl, w_rev, w_neg, w_nil, w_cons, w_and1, w_and2, w_or1, w_or2, w_asg, w_exp, w_ret, w_anm, w_asub, w_orv, w_dcn0, w_dcn1, w_whl, w_callv, w_wipe1, w_wipe2, Ok.ok_iff, subTy, List.getElem?_cons_zero, List.getElem?_cons_succ, List.set_cons_succ, List.set_cons_zero, if_true, Bool.false_eq_true, if_false, Option.map_some, Bool.not_true, Bool.not_false, Bool.true_or, Bool.or_true, Bool.false_or, Bool.or_false, Bool.true_and, Bool.and_true, Bool.false_and, Bool.and_false, eq_self, decide_true, decide_false, beq_self_eq_true, of_some, litD_f, litD_t, bin_add, bin_sub, bin_band, cmp_lti, cmp_lts, cmp_le, cmp_gt, cmp_ge, cmp_none, cmp_nnone, cmp_true, cmp_ntrue, ofB_some, cmp_in, cmp_nin, nonD_non, nonD_s, nonD_t, nonD_i, nonD_l, nonD_r, nonD_b, deref_s, deref_t, deref_l, deref_i, deref_b, deref_n, ok_s, ok_i, ok_b, ok_n, mem_s, flat_s, flat_i, flat_b, flat_n, ix_s, ix_t, ix_l, items_t, items_l, len_s, len_t2, len_t4, len_l, tuple_s, tuple_t, tuple_l, list_s, list_t, list_l, blt_max, blt_min, blt_all, blt_any, ty_s, ty_t, ty_l, ty_i, ty_b, ty_n, rec_join, rec_idx, rec_idxT, tupOnly_t, blt_int1, it_s, it_t, it_l, compI_sq, forI_sq, bind1, rev_s, rev_t, rev_l, blt_inrg, blt_ninrg, rec_upr, bind2, sl_t, sl_s, sl_l, part_i, eq_ss, eq_ii, eq_bb, eq_tn, eq_tc, eq_tc0, eq_t0c, in_nil, in_cons, in_strs, in_sgn, flat_map, all_true, cmp_eq_ii, cmp_eq_ss, cmp_eq_bb, cmp_ne_ii, cmp_ne_ss, bin_shrn, mem_strs, mem_strl, atI_0, atI_1, atI_2, atI_3]
    rw [bin_addr A8.at' (by rw [sizeL]; simp; omega)]
    exact ⟨_, rfl, nrt (rt ⟨_, R, rfl, A8.dc, fm_app A8.bad (fm_cons ⟨rfl, rfl⟩ (fm_cons ⟨rfl, rfl⟩ fm_nil))⟩)⟩
  refine nx ?_
  unfold n_11
  refine ss_cons (ite_ok ?_)
  simp only [w_okb, w_bb, w_var, w_con, w_glo, w_tup, w_lst, w_dct, w_bin, w_not, w_and, w_or, w_cmp, w_chain, w_ix, w_call, w_blt, w_mth, w_comp, w_sl, w_rev, w_neg, w_nil, w_cons, w_and1, w_and2, w_or1, w_or2, w_asg, w_exp, w_ret, w_anm, w_asub, w_orv, w_dcn0, w_dcn1, w_whl, w_callv, w_wipe1, w_wipe2, Ok.ok_iff, subTy, List.getElem?_cons_zero, List.getElem?_cons_succ, List.set_cons_succ, List.set_cons_zero, if_true, Bool.false_eq_true, if_false, Option.map_some, Bool.not_true, Bool.not_false, Bool.true_or, Bool.or_true, Bool.false_or, Bool.or_false, Bool.true_and, Bool.and_true, Bool.false_and, Bool.and_false, eq_self, decide_true, decide_false, beq_self_eq_true, of_some, litD_f, litD_t, bin_add, bin_sub, bin_band, cmp_lti, cmp_lts, cmp_le, cmp_gt, cmp_ge, cmp_none, cmp_nnone, cmp_true, cmp_ntrue, ofB_some, cmp_in, cmp_nin, nonD_non, nonD_s, nonD_t, nonD_i, nonD_l, nonD_r, nonD_b, deref_s, deref_t, deref_l, deref_i, deref_b, deref_n, ok_s, ok_i, ok_b, ok_n, mem_s, flat_s, flat_i, flat_b, flat_n, ix_s, ix_t, ix_l, items_t, items_l, len_s, len_t2, len_t4, len_l, tuple_s, tuple_t, tuple_l, list_s, list_t, list_l, blt_max, blt_min, blt_all, blt_any, ty_s, ty_t, ty_l, ty_i, ty_b, ty_n, rec_join, rec_idx, rec_idxT, tupOnly_t, blt_int1, it_s, it_t, it_l, compI_sq, forI_sq, bind1, rev_s, rev_t, rev_l, blt_inrg, blt_ninrg, rec_upr, bind2, sl_t, sl_s, sl_l, part_i, eq_ss, eq_ii, eq_bb, eq_tn, eq_tc, eq_tc0, eq_t0c, in_nil, in_cons, in_strs, in_sgn, flat_map, all_true, cmp_eq_ii, cmp_eq_ss, cmp_eq_bb, cmp_ne_ii, cmp_ne_ss, bin_shrn, mem_strs, mem_strl, atI_0, atI_1, atI_2, atI_3, len_t, hlT]
  by_cases h1 : 1 < st.length
  · have d1 : decide ((1 : Int) < (st.length : Int)) = true := decide_eq_true (by omega)
    rw [d1]
    refine i_t ?_
    wp_walk using rev_t, cR, cL, a5
    match htl : tl with
    | [] => rw [hst] at h1; exact absurd h1 (Nat.lt_irrefl _)
    | p1 :: tl2 =>
    have hst2 : st = p0 :: p1 :: tl2 := hst
    have lt : ltS [p0.1] [p1.1] = true := by
      rw [hst2] at hri
      exact (List.pairwise_cons.mp hri).1 _ (by simp)
    have gt : ltS [p1.1] [p0.1] = false := by
      cases e : ltS [p1.1] [p0.1] with
      | false => rfl
      | true =>
        have := ltS_trans lt e
        rw [irr] at this
        cases this
    have tR : ∀ {R : List Nat}, BadD R (.tup (st.map sndD).reverse) := by
      intro R
      have e : (st.map sndD).reverse = (p1 :: tl2).reverse.map sndD ++ [p0].map sndD := by
        rw [hst2, ← List.map_append, ← List.map_reverse, ← List.reverse_cons]
      rw [e]
      exact bad_two (a := p1.1) (c := p0.1) (by simp) (by simp) gt
    have tQ : ∀ {R : List Nat}, BadD R (.tup ((st.drop 1).map sndD ++ (st.take 1).map sndD)) := by
      intro R
      exact bad_two (a := p1.1) (c := p0.1) (by rw [hst2]; simp) (by rw [hst2]; simp) gt
    refine addm_step A7 (by simp) (by simp; omega) (fm_cons tR (fm_cons tQ fm_nil)) fun S9 m9 ds9 A9 l9 => ?_
    have l9 : ds9.length = ds7.length + 2 := l9
    simp only [w_okb, w_bb, w_var, w_con, w_glo, w_tup, w_lst, w_dct, w_bin, w_not, w_and, w_or, w_cmp, w_chain, w_ix, w_call, w_blt, w_mth, w_comp, w_sl, w_rev, w_neg, w_nil, w_cons, w_and1, w_and2, w_or1, w_or2, w_asg, w_exp, w_ret, w_anm, w_asub, w_orv, w_dcn0, w_dcn1, w_whl, w_callv, w_wipe1, w_wipe2, Ok.ok_iff, subTy, List.getElem?_cons_zero, List.getElem?_cons_succ, List.set_cons_succ, List.set_cons_zero, if_true, Bool.false_eq_true, if_false, Option.map_some, Bool.not_true, Bool.not_false, Bool.true_or, Bool.or_true, Bool.false_or, Bool.or_false, Bool.true_and, Bool.and_true, Bool.false_and, Bool.and_false, eq_self, decide_true, decide_false, beq_self_eq_true, of_some, litD_f, litD_t, bin_add, bin_sub, bin_band, cmp_lti, cmp_lts, cmp_le, cmp_gt, cmp_ge, cmp_none, cmp_nnone, cmp_true, cmp_ntrue, ofB_some, cmp_in, cmp_nin, nonD_non, nonD_s, nonD_t, nonD_i, nonD_l, nonD_r, nonD_b, deref_s, deref_t, deref_l, deref_i, deref_b, deref_n, ok_s, ok_i, ok_b, ok_n, mem_s, flat_s, flat_i, flat_b, flat_n, ix_s, ix_t, ix_l, items_t, items_l, len_s, len_t2, len_t4, len_l, tuple_s, tuple_t, tuple_l, list_s, list_t, list_l, blt_max, blt_min, blt_all, blt_any, ty_s, ty_t, ty_l, ty_i, ty_b, ty_n, rec_join, rec_idx, rec_idxT, tupOnly_t, blt_int1, it_s, it_t, it_l, compI_sq, forI_sq, bind1, rev_s, rev_t, rev_l, blt_inrg, blt_ninrg, rec_upr, bind2, sl_t, sl_s, sl_l, part_i, eq_ss, eq_ii, eq_bb, eq_tn, eq_tc, eq_tc0, eq_t0c, in_nil, in_cons, in_strs, in_sgn, flat_map, all_true, cmp_eq_ii, cmp_eq_ss, cmp_eq_bb, cmp_ne_ii, cmp_ne_ss, bin_shrn, mem_strs, mem_strl, atI_0, atI_1, atI_2, atI_3]
    exact nx (ss_nil (nx (fin S9 m9 ds9 A9 (by omega))))
  · have d1 : decide ((1 : Int) < (st.length : Int)) = false := decide_eq_false (by omega)
    rw [d1]
    exact i_f (ss_nil (nx (fin S7 m3 ds7 A7 (by omega))))
end Z

set_option Elab.async false
set_option linter.all false
set_option maxRecDepth 100000
set_option maxHeartbeats 4000000
namespace Z
open PySem L2 PySem.Spec PyProof.Rows
local macro_rules
  | `(tactic| wp_walk using $ts,*) => `(tactic| ((try simp only [w_okb, w_bb, w_var, w_con, w_glo, w_tup, w_lst, w_dct, w_bin, w_not, w_and, w_or, w_cmp, w_chain, w_ix, w_call, w_blt, w_mth, w_comp, w_sl, w_rev, w_neg, w_nil, w_cons, w_and1, w_and2, w_or1, w_or2, w_asg, w_exp, w_ret, w_anm, w_asub, w_orv, w_dcn0, w_dcn1, w_whl, w_callv, w_wipe1, w_wipe2, Ok.ok_iff, subTy, List.getElem?_cons_zero, List.getElem?_cons_succ, List.set_cons_succ, List.set_cons_zero, if_true, Bool.false_eq_true, if_false, Option.map_some, Bool.not_true, Bool.not_false, Bool.true_or, Bool.or_true, Bool.false_or, Bool.or_false, Bool.true_and, Bool.and_true, Bool.false_and, Bool.and_false, eq_self, decide_true, decide_false, beq_self_eq_true, of_some, litD_f, litD_t, bin_add, bin_sub, bin_band, cmp_lti, cmp_lts, cmp_le, cmp_gt, cmp_ge, cmp_none, cmp_nnone, cmp_true, cmp_ntrue, ofB_some, cmp_in, cmp_nin, nonD_non, nonD_s, nonD_t, nonD_i, nonD_l, nonD_r, nonD_b, deref_s, deref_t, deref_l, deref_i, deref_b, deref_n, ok_s, ok_i, ok_b, ok_n, mem_s, flat_s, flat_i, flat_b, flat_n, ix_s, ix_t, ix_l, items_t, items_l, len_s, len_t2, len_t4, len_l, tuple_s, tuple_t, tuple_l, list_s, list_t, list_l, blt_max, blt_min, blt_all, blt_any, ty_s, ty_t, ty_l, ty_i, ty_b, ty_n, rec_join, rec_idx, rec_idxT, tupOnly_t, blt_int1, it_s, it_t, it_l, compI_sq, forI_sq, bind1, rev_s, rev_t, rev_l, blt_inrg, blt_ninrg, rec_upr, bind2, sl_t, sl_s, sl_l, part_i, eq_ss, eq_ii, eq_bb, eq_tn, eq_tc, eq_tc0, eq_t0c, in_nil, in_cons, in_strs, in_sgn, flat_map, all_true, cmp_eq_ii, cmp_eq_ss, cmp_eq_bb, cmp_ne_ii, cmp_ne_ss, bin_shrn, mem_strs, mem_strl, atI_0, atI_1, atI_2, atI_3, $[$ts:term],*]); repeat' (first | (with_reducible refine nx ?_) | (with_reducible refine nrt ?_) | (with_reducible refine rt ?_) | (with_reducible refine i_t ?_) | (with_reducible refine i_f ?_) | (with_reducible refine ss_nil ?_) | (with_reducible refine ss_cons (ite_ok ?_)) | (with_reducible refine ss_cons (fo_ok ?_)) | (with_reducible refine ss_cons ?_) | ((first | (with_reducible refine okE ?_) | (with_reducible refine okS ?_) | (with_reducible refine okEs ?_)); simp only [w_okb, w_bb, w_var, w_con, w_glo, w_tup, w_lst, w_dct, w_bin, w_not, w_and, w_or, w_cmp, w_chain, w_ix, w_call, w_blt, w_mth, w_comp, w_sl, w_rev, w_neg, w_nil, w_cons, w_and1, w_and2, w_or1, w_or2, w_asg, w_exp, w_ret, w_anm, w_asub, w_orv, w_dcn0, w_dcn1, w_whl, w_callv, w_wipe1, w_wipe2, Ok.ok_iff, subTy, List.getElem?_cons_zero, List.getElem?_cons_succ, List.set_cons_succ, List.set_cons_zero, if_true, Bool.false_eq_true, if_false, Option.map_some, Bool.not_true, Bool.not_false, Bool.true_or, Bool.or_true, Bool.false_or, Bool.or_false, Bool.true_and, Bool.and_true, Bool.false_and, Bool.and_false, eq_self, decide_true, decide_false, beq_self_eq_true, of_some, litD_f, litD_t, bin_add, bin_sub, bin_band, cmp_lti, cmp_lts, cmp_le, cmp_gt, cmp_ge, cmp_none, cmp_nnone, cmp_true, cmp_ntrue, ofB_some, cmp_in, cmp_nin, nonD_non, nonD_s, nonD_t, nonD_i, nonD_l, nonD_r, nonD_b, deref_s, deref_t, deref_l, deref_i, deref_b, deref_n, ok_s, ok_i, ok_b, ok_n, mem_s, flat_s, flat_i, flat_b, flat_n, ix_s, ix_t, ix_l, items_t, items_l, len_s, len_t2, len_t4, len_l, tuple_s, tuple_t, tuple_l, list_s, list_t, list_l, blt_max, blt_min, blt_all, blt_any, ty_s, ty_t, ty_l, ty_i, ty_b, ty_n, rec_join, rec_idx, rec_idxT, tupOnly_t, blt_int1, it_s, it_t, it_l, compI_sq, forI_sq, bind1, rev_s, rev_t, rev_l, blt_inrg, blt_ninrg, rec_upr, bind2, sl_t, sl_s, sl_l, part_i, eq_ss, eq_ii, eq_bb, eq_tn, eq_tc, eq_tc0, eq_t0c, in_nil, in_cons, in_strs, in_sgn, flat_map, all_true, cmp_eq_ii, cmp_eq_ss, cmp_eq_bb, cmp_ne_ii, cmp_ne_ss, bin_shrn, mem_strs, mem_strl, atI_0, atI_1, atI_2, atI_3, $[$ts:term],*]))))
  | `(tactic| wp_walk) => `(tactic| wp_walk using w_nil)
def signs1 : List Char := [' ', '!', '"', '#', '$', '&', '\'', '(', ')', '*', '+', ',', '-', '.', '/', '0', '1', '2', '3', '4', '5', '6', '7', '8', '9', ':', ';', '<', '=', '>', '?', '@', 'A', 'B', 'C', 'D', 'E', 'F', 'G', 'H', 'I', 'J', 'K', 'L', 'M', 'N', 'O', 'P', 'Q', 'R', 'S', 'T', 'U', 'V', 'W', 'X', 'Y', 'Z', '[', '\\', ']', '^', '_', '`', '{', '|', '}', '~']
def lawB : List Z.S := [.asg (.nm 4) (.call "_law_stock" [.call "_law_pack" [.var 0, .var 1]]),
      .ite (.not (.blt false .all [.comp false [11] [11] true .rng2 [.con (.int 1), .bin .add (.blt false .len [.var 4]) (.con (.int 1))] (.con (.bl true)) (.call "_law_is" [.call "is_stock" [.sl false (.var 4) false .no true (.var 11)], .con (.bl true)])])) [.ret (.con (.bl false))] [],
      .ite (.not (.blt false .all [.comp false [10] [10] true .sq [.call "_law_no_stocks" [.var 4]] (.con (.bl true)) (.call "_law_is" [.call "is_stock" [.var 10], .con (.bl false)])])) [.ret (.con (.bl false))] [],
      .asg (.nm 5) (.call "_law_pack" [.var 0, .bin .add (.var 1) (.con (.int 1))]),
      .asg (.nm 6) (.con (.str signs1)),
      .asg (.nm 7) (.ix (.var 6) (.call "_law_take" [.var 5, .blt false .len [.var 6]])),
      .asg (.nm 8) (.sl false (.con (.str ['a', 'b', 'c', 'd', 'e', 'f', 'g'])) false .no true (.call "_law_take" [.var 5, .con (.int 8)])),
      .ite (.or [.not (.call "_law_is" [.call "is_name" [.bin .add (.var 8) (.var 7)], .con (.bl false)]), .not (.call "_law_is" [.call "is_name" [.bin .add (.var 7) (.var 8)], .con (.bl false)])]) [.ret (.con (.bl false))] [],
      .ite (.or [.not (.call "_law_is" [.call "is_stock" [.tup [.tup [.var 7, .tup []]]], .con (.bl false)]), .not (.call "_law_is" [.call "is_stock" [.tup [.tup [.con (.str ['a']), .tup [.bin .add (.var 8) (.var 7)]]]], .con (.bl false)])]) [.ret (.con (.bl false))] []]
def lawT : List Z.S := [.asg (.nm 2) (.blt false .tuple [.comp false [9] [9] true .sq [.con (.str ['b', 'c', 'x', 'z'])] (.con (.bl true)) (.tup [.var 9, .tup [.con (.str ['a']), .con (.str ['b']), .con (.str ['c']), .con (.str ['d'])]])]),
  .ite (.or [.not (.call "_law_is" [.call "is_stock" [.var 2], .con (.bl true)]), .not (.blt false .all [.comp false [9] [9] true .sq [.lst false [.con (.str ['a']), .con (.str ['a', 'b', 'c', 'd', 'e', 'f', 'g', 'h']), .con (.str ['z', 'z'])]] (.con (.bl true)) (.call "_law_is" [.call "is_name" [.var 9], .con (.bl true)])])]) [.ret (.con (.bl false))] [],
  .asg (.nm 3) (.lst false [.con (.str []), .con (.str ['a', 'b', 'c', 'd', 'e', 'f', 'g', 'h', 'i']), .con (.str ['A']), .con (.str ['a', '1']), .con (.str ['a', ' ', 'b']), .con (.str [' ']), .con (.str ['#']), .con (.str ['0']), .con (.str ['a', '-']), .con .non, .con (.int 7), .con (.bl true), .tup [.con (.str ['a'])], .lst false [.con (.str ['a'])], .dct [] [], .tup [], .con (.str ['a', '
'])]),
  .ret (.blt false .all [.comp false [10] [10] true .sq [.var 3] (.con (.bl true)) (.call "_law_is" [.call "is_name" [.var 10], .con (.bl false)])])]
theorem c_law_pt : c_law = ⟨1, 12, .fo [1] true .rng3 [.con (.int 0), .blt false .max2 [.con (.int 1), .blt false .min2 [.blt false .len [.var 0], .con (.int 12)]], .con (.int 2)] lawB :: lawT⟩ := rfl

abbrev G2 (k : Nat) : Ctx := ⟨callF pg (k + 5), pg.glo, pg.fuel⟩
theorem signs1_no : ∀ c ∈ signs1, c ∉ small26 := by decide +kernel
theorem name_no {x : List Char} {c : Char} (h : c ∈ x) (hc : c ∉ small26) : nameB (.str x) = false := by
  show (decide (1 ≤ x.length) && decide (x.length ≤ 8) && x.all fun c => decide (c ∈ small26)) = false
  have : (x.all fun c => decide (c ∈ small26)) = false := List.all_eq_false.mpr ⟨c, h, by simpa using hc⟩
  rw [this, Bool.and_false]
theorem it_r2 {S : Store} {m : Nat} (h : m ≤ 1000) : itrD .rng2 [.int 1, .int ((m : Int) + 1)] S = .ok (.sq ((List.range m).map fun (j : Nat) => .int (1 + (j : Int)))) := by
  have hz : sizeLine = 16777216 := by decide
  simp only [itrD]
  rw [if_pos (by omega), rangeD_map]
  have : (((m : Int) + 1) - 1).toNat = m := by omega
  rw [this]
theorem e_isx {k : Nat} {S : Store} {a b : Bool} : callF pg (k + 1) "_law_is" [.bl a, .bl b] S = .ok (.bl (a == b), S) := by
  refine eq_ok (call_ok (ρ := [some (.bl a), some (.bl b)]) fn_c_law_is rfl rfl (ss_cons ?_))
  have hs : decide (Ty.bool = Ty.bool) = true := rfl
  simp only [w_okb, w_bb, w_var, w_con, w_glo, w_tup, w_lst, w_dct, w_bin, w_not, w_and, w_or, w_cmp, w_chain, w_ix, w_call, w_blt, w_mth, w_comp, w_sl, w_rev, w_neg, w_nil, w_cons, w_and1, w_and2, w_or1, w_or2, w_asg, w_exp, w_ret, w_anm, w_asub, w_orv, w_dcn0, w_dcn1, w_whl, w_callv, w_wipe1, w_wipe2, Ok.ok_iff, subTy, List.getElem?_cons_zero, List.getElem?_cons_succ, List.set_cons_succ, List.set_cons_zero, if_true, Bool.false_eq_true, if_false, Option.map_some, Bool.not_true, Bool.not_false, Bool.true_or, Bool.or_true, Bool.false_or, Bool.or_false, Bool.true_and, Bool.and_true, Bool.false_and, Bool.and_false, eq_self, decide_true, decide_false, beq_self_eq_true, of_some, litD_f, litD_t, bin_add, bin_sub, bin_band, cmp_lti, cmp_lts, cmp_le, cmp_gt, cmp_ge, cmp_none, cmp_nnone, cmp_true, cmp_ntrue, ofB_some, cmp_in, cmp_nin, nonD_non, nonD_s, nonD_t, nonD_i, nonD_l, nonD_r, nonD_b, deref_s, deref_t, deref_l, deref_i, deref_b, deref_n, ok_s, ok_i, ok_b, ok_n, mem_s, flat_s, flat_i, flat_b, flat_n, ix_s, ix_t, ix_l, items_t, items_l, len_s, len_t2, len_t4, len_l, tuple_s, tuple_t, tuple_l, list_s, list_t, list_l, blt_max, blt_min, blt_all, blt_any, ty_s, ty_t, ty_l, ty_i, ty_b, ty_n, rec_join, rec_idx, rec_idxT, tupOnly_t, blt_int1, it_s, it_t, it_l, compI_sq, forI_sq, bind1, rev_s, rev_t, rev_l, blt_inrg, blt_ninrg, rec_upr, bind2, sl_t, sl_s, sl_l, part_i, eq_ss, eq_ii, eq_bb, eq_tn, eq_tc, eq_tc0, eq_t0c, in_nil, in_cons, in_strs, in_sgn, flat_map, all_true, cmp_eq_ii, cmp_eq_ss, cmp_eq_bb, cmp_ne_ii, cmp_ne_ss, bin_shrn, mem_strs, mem_strl, atI_0, atI_1, atI_2, atI_3, hs]
  exact nrt (rt rfl)
theorem DR0 {S : Store} : DR S [] := fun _ h => nomatch h
theorem law0 {k j : Nat} {S : Store} {ns : List Int} (hz : ∀ z ∈ ns, z.natAbs.log2 ≤ 1048576) (hj : j ≤ 900) {x2 x3 x4 x5 x6 x7 x8 x9 x10 x11 : Option D} :
    Ok (evSs (G2 k) lawB [some (.lst (ns.map .int)), some (.int (j : Int)), x2, x3, x4, x5, x6, x7, x8, x9, x10, x11] S) fun p => (p.1 = .nx ∨ p.1 = .ct) ∧ ∃ x1 x2 x3 x4 x5 x6 x7 x8 x9 x10 x11, p.2.1 = [some (.lst (ns.map .int)), x1, x2, x3, x4, x5, x6, x7, x8, x9, x10, x11] := by
  unfold lawB
  wp_walk
  refine Ok.bind (e_pack (k := k + 3) (j := j) (by omega) hz) ?_
  rintro ⟨_, _⟩ ⟨rfl, N, rfl⟩
  have hp : Pk S.length (S ++ [.lst [.int N]]) := ⟨N, by simp⟩
  generalize S ++ [O.lst [.int N]] = S0 at hp ⊢
  generalize S.length = n at hp ⊢
  simp only [w_okb, w_bb, w_var, w_con, w_glo, w_tup, w_lst, w_dct, w_bin, w_not, w_and, w_or, w_cmp, w_chain, w_ix, w_call, w_blt, w_mth, w_comp, w_sl, w_rev, w_neg, w_nil, w_cons, w_and1, w_and2, w_or1, w_or2, w_asg, w_exp, w_ret, w_anm, w_asub, w_orv, w_dcn0, w_dcn1, w_whl, w_callv, w_wipe1, w_wipe2, Ok.ok_iff, subTy, List.getElem?_cons_zero, List.getElem?_cons_succ, List.set_cons_succ, List.set_cons_zero, if_true, Bool.false_eq_true, if_false, Option.map_some, Bool.not_true, Bool.not_false, Bool.true_or, Bool.or_true, Bool.false_or, Bool.or_false, Bool.true_and, Bool.and_true, Bool.false_and, Bool.and_false, eq_self, decide_true, decide_false, beq_self_eq_true, of_some, litD_f, litD_t, bin_add, bin_sub, bin_band, cmp_lti, cmp_lts, cmp_le, cmp_gt, cmp_ge, cmp_none, cmp_nnone, cmp_true, cmp_ntrue, ofB_some, cmp_in, cmp_nin, nonD_non, nonD_s, nonD_t, nonD_i, nonD_l, nonD_r, nonD_b, deref_s, deref_t, deref_l, deref_i, deref_b, deref_n, ok_s, ok_i, ok_b, ok_n, mem_s, flat_s, flat_i, flat_b, flat_n, ix_s, ix_t, ix_l, items_t, items_l, len_s, len_t2, len_t4, len_l, tuple_s, tuple_t, tuple_l, list_s, list_t, list_l, blt_max, blt_min, blt_all, blt_any, ty_s, ty_t, ty_l, ty_i, ty_b, ty_n, rec_join, rec_idx, rec_idxT, tupOnly_t, blt_int1, it_s, it_t, it_l, compI_sq, forI_sq, bind1, rev_s, rev_t, rev_l, blt_inrg, blt_ninrg, rec_upr, bind2, sl_t, sl_s, sl_l, part_i, eq_ss, eq_ii, eq_bb, eq_tn, eq_tc, eq_tc0, eq_t0c, in_nil, in_cons, in_strs, in_sgn, flat_map, all_true, cmp_eq_ii, cmp_eq_ss, cmp_eq_bb, cmp_ne_ii, cmp_ne_ss, bin_shrn, mem_strs, mem_strl, atI_0, atI_1, atI_2, atI_3]
  refine Ok.bind (e_stk (k := k + 2) hp) ?_
  rintro ⟨_, S1⟩ ⟨st, g, rfl, f1⟩
  have hle := g.dr.le
  rw [List.length_map] at hle
  have hst : stockD st = .tup (st.map sndD) := rfl
  have hlT : (st.map sndD).length = st.length := List.length_map _
  simp only [w_okb, w_bb, w_var, w_con, w_glo, w_tup, w_lst, w_dct, w_bin, w_not, w_and, w_or, w_cmp, w_chain, w_ix, w_call, w_blt, w_mth, w_comp, w_sl, w_rev, w_neg, w_nil, w_cons, w_and1, w_and2, w_or1, w_or2, w_asg, w_exp, w_ret, w_anm, w_asub, w_orv, w_dcn0, w_dcn1, w_whl, w_callv, w_wipe1, w_wipe2, Ok.ok_iff, subTy, List.getElem?_cons_zero, List.getElem?_cons_succ, List.set_cons_succ, List.set_cons_zero, if_true, Bool.false_eq_true, if_false, Option.map_some, Bool.not_true, Bool.not_false, Bool.true_or, Bool.or_true, Bool.false_or, Bool.or_false, Bool.true_and, Bool.and_true, Bool.false_and, Bool.and_false, eq_self, decide_true, decide_false, beq_self_eq_true, of_some, litD_f, litD_t, bin_add, bin_sub, bin_band, cmp_lti, cmp_lts, cmp_le, cmp_gt, cmp_ge, cmp_none, cmp_nnone, cmp_true, cmp_ntrue, ofB_some, cmp_in, cmp_nin, nonD_non, nonD_s, nonD_t, nonD_i, nonD_l, nonD_r, nonD_b, deref_s, deref_t, deref_l, deref_i, deref_b, deref_n, ok_s, ok_i, ok_b, ok_n, mem_s, flat_s, flat_i, flat_b, flat_n, ix_s, ix_t, ix_l, items_t, items_l, len_s, len_t2, len_t4, len_l, tuple_s, tuple_t, tuple_l, list_s, list_t, list_l, blt_max, blt_min, blt_all, blt_any, ty_s, ty_t, ty_l, ty_i, ty_b, ty_n, rec_join, rec_idx, rec_idxT, tupOnly_t, blt_int1, it_s, it_t, it_l, compI_sq, forI_sq, bind1, rev_s, rev_t, rev_l, blt_inrg, blt_ninrg, rec_upr, bind2, sl_t, sl_s, sl_l, part_i, eq_ss, eq_ii, eq_bb, eq_tn, eq_tc, eq_tc0, eq_t0c, in_nil, in_cons, in_strs, in_sgn, flat_map, all_true, cmp_eq_ii, cmp_eq_ss, cmp_eq_bb, cmp_ne_ii, cmp_ne_ss, bin_shrn, mem_strs, mem_strl, atI_0, atI_1, atI_2, atI_3, hst, len_t, hlT]
  refine nx (ss_cons (ite_ok ?_))
  simp only [w_okb, w_bb, w_var, w_con, w_glo, w_tup, w_lst, w_dct, w_bin, w_not, w_and, w_or, w_cmp, w_chain, w_ix, w_call, w_blt, w_mth, w_comp, w_sl, w_rev, w_neg, w_nil, w_cons, w_and1, w_and2, w_or1, w_or2, w_asg, w_exp, w_ret, w_anm, w_asub, w_orv, w_dcn0, w_dcn1, w_whl, w_callv, w_wipe1, w_wipe2, Ok.ok_iff, subTy, List.getElem?_cons_zero, List.getElem?_cons_succ, List.set_cons_succ, List.set_cons_zero, if_true, Bool.false_eq_true, if_false, Option.map_some, Bool.not_true, Bool.not_false, Bool.true_or, Bool.or_true, Bool.false_or, Bool.or_false, Bool.true_and, Bool.and_true, Bool.false_and, Bool.and_false, eq_self, decide_true, decide_false, beq_self_eq_true, of_some, litD_f, litD_t, bin_add, bin_sub, bin_band, cmp_lti, cmp_lts, cmp_le, cmp_gt, cmp_ge, cmp_none, cmp_nnone, cmp_true, cmp_ntrue, ofB_some, cmp_in, cmp_nin, nonD_non, nonD_s, nonD_t, nonD_i, nonD_l, nonD_r, nonD_b, deref_s, deref_t, deref_l, deref_i, deref_b, deref_n, ok_s, ok_i, ok_b, ok_n, mem_s, flat_s, flat_i, flat_b, flat_n, ix_s, ix_t, ix_l, items_t, items_l, len_s, len_t2, len_t4, len_l, tuple_s, tuple_t, tuple_l, list_s, list_t, list_l, blt_max, blt_min, blt_all, blt_any, ty_s, ty_t, ty_l, ty_i, ty_b, ty_n, rec_join, rec_idx, rec_idxT, tupOnly_t, blt_int1, it_s, it_t, it_l, compI_sq, forI_sq, bind1, rev_s, rev_t, rev_l, blt_inrg, blt_ninrg, rec_upr, bind2, sl_t, sl_s, sl_l, part_i, eq_ss, eq_ii, eq_bb, eq_tn, eq_tc, eq_tc0, eq_t0c, in_nil, in_cons, in_strs, in_sgn, flat_map, all_true, cmp_eq_ii, cmp_eq_ss, cmp_eq_bb, cmp_ne_ii, cmp_ne_ss, bin_shrn, mem_strs, mem_strl, atI_0, atI_1, atI_2, atI_3, len_t, hlT, it_r2 (S := S1) (m := st.length) (by omega)]
  rw [compL_tt fun d hd => by
    obtain ⟨i, hi, rfl⟩ := List.mem_map.mp hd
    have ec : cut (st.map sndD) none (some (1 + (i : Int))) = (st.take (1 + i)).map sndD := by
      rw [List.map_take]
      have : (1 + (i : Int)) = ((1 + i : Nat) : Int) := by omega
      rw [this]
      exact cut_tk _ _
    simp only [w_okb, w_bb, w_var, w_con, w_glo, w_tup, w_lst, w_dct, w_bin, w_not, w_and, w_or, w_cmp, w_chain, w_ix, w_call, w_blt, w_mth, w_comp, w_sl, w_rev, w_neg, w_nil, w_cons, w_and1, w_and2, w_or1, w_or2, w_asg, w_exp, w_ret, w_anm, w_asub, w_orv, w_dcn0, w_dcn1, w_whl, w_callv, w_wipe1, w_wipe2, Ok.ok_iff, subTy, List.getElem?_cons_zero, List.getElem?_cons_succ, List.set_cons_succ, List.set_cons_zero, if_true, Bool.false_eq_true, if_false, Option.map_some, Bool.not_true, Bool.not_false, Bool.true_or, Bool.or_true, Bool.false_or, Bool.or_false, Bool.true_and, Bool.and_true, Bool.false_and, Bool.and_false, eq_self, decide_true, decide_false, beq_self_eq_true, of_some, litD_f, litD_t, bin_add, bin_sub, bin_band, cmp_lti, cmp_lts, cmp_le, cmp_gt, cmp_ge, cmp_none, cmp_nnone, cmp_true, cmp_ntrue, ofB_some, cmp_in, cmp_nin, nonD_non, nonD_s, nonD_t, nonD_i, nonD_l, nonD_r, nonD_b, deref_s, deref_t, deref_l, deref_i, deref_b, deref_n, ok_s, ok_i, ok_b, ok_n, mem_s, flat_s, flat_i, flat_b, flat_n, ix_s, ix_t, ix_l, items_t, items_l, len_s, len_t2, len_t4, len_l, tuple_s, tuple_t, tuple_l, list_s, list_t, list_l, blt_max, blt_min, blt_all, blt_any, ty_s, ty_t, ty_l, ty_i, ty_b, ty_n, rec_join, rec_idx, rec_idxT, tupOnly_t, blt_int1, it_s, it_t, it_l, compI_sq, forI_sq, bind1, rev_s, rev_t, rev_l, blt_inrg, blt_ninrg, rec_upr, bind2, sl_t, sl_s, sl_l, part_i, eq_ss, eq_ii, eq_bb, eq_tn, eq_tc, eq_tc0, eq_t0c, in_nil, in_cons, in_strs, in_sgn, flat_map, all_true, cmp_eq_ii, cmp_eq_ss, cmp_eq_bb, cmp_ne_ii, cmp_ne_ss, bin_shrn, mem_strs, mem_strl, atI_0, atI_1, atI_2, atI_3, ec, e_stockD (k := k + 1) (gd_R (S := S1) DR0 3 (gdR_T (n := 0) (xs := st.take (1 + i)))), stk_take g (n := 1 + i) (by omega), e_isx (k := k + 4)]]
  simp only [w_okb, w_bb, w_var, w_con, w_glo, w_tup, w_lst, w_dct, w_bin, w_not, w_and, w_or, w_cmp, w_chain, w_ix, w_call, w_blt, w_mth, w_comp, w_sl, w_rev, w_neg, w_nil, w_cons, w_and1, w_and2, w_or1, w_or2, w_asg, w_exp, w_ret, w_anm, w_asub, w_orv, w_dcn0, w_dcn1, w_whl, w_callv, w_wipe1, w_wipe2, Ok.ok_iff, subTy, List.getElem?_cons_zero, List.getElem?_cons_succ, List.set_cons_succ, List.set_cons_zero, if_true, Bool.false_eq_true, if_false, Option.map_some, Bool.not_true, Bool.not_false, Bool.true_or, Bool.or_true, Bool.false_or, Bool.or_false, Bool.true_and, Bool.and_true, Bool.false_and, Bool.and_false, eq_self, decide_true, decide_false, beq_self_eq_true, of_some, litD_f, litD_t, bin_add, bin_sub, bin_band, cmp_lti, cmp_lts, cmp_le, cmp_gt, cmp_ge, cmp_none, cmp_nnone, cmp_true, cmp_ntrue, ofB_some, cmp_in, cmp_nin, nonD_non, nonD_s, nonD_t, nonD_i, nonD_l, nonD_r, nonD_b, deref_s, deref_t, deref_l, deref_i, deref_b, deref_n, ok_s, ok_i, ok_b, ok_n, mem_s, flat_s, flat_i, flat_b, flat_n, ix_s, ix_t, ix_l, items_t, items_l, len_s, len_t2, len_t4, len_l, tuple_s, tuple_t, tuple_l, list_s, list_t, list_l, blt_max, blt_min, blt_all, blt_any, ty_s, ty_t, ty_l, ty_i, ty_b, ty_n, rec_join, rec_idx, rec_idxT, tupOnly_t, blt_int1, it_s, it_t, it_l, compI_sq, forI_sq, bind1, rev_s, rev_t, rev_l, blt_inrg, blt_ninrg, rec_upr, bind2, sl_t, sl_s, sl_l, part_i, eq_ss, eq_ii, eq_bb, eq_tn, eq_tc, eq_tc0, eq_t0c, in_nil, in_cons, in_strs, in_sgn, flat_map, all_true, cmp_eq_ii, cmp_eq_ss, cmp_eq_bb, cmp_ne_ii, cmp_ne_ss, bin_shrn, mem_strs, mem_strl, atI_0, atI_1, atI_2, atI_3, blt_all, all_tt2]
  refine i_f (ss_nil (nx (ss_cons (ite_ok ?_))))
  simp only [w_okb, w_bb, w_var, w_con, w_glo, w_tup, w_lst, w_dct, w_bin, w_not, w_and, w_or, w_cmp, w_chain, w_ix, w_call, w_blt, w_mth, w_comp, w_sl, w_rev, w_neg, w_nil, w_cons, w_and1, w_and2, w_or1, w_or2, w_asg, w_exp, w_ret, w_anm, w_asub, w_orv, w_dcn0, w_dcn1, w_whl, w_callv, w_wipe1, w_wipe2, Ok.ok_iff, subTy, List.getElem?_cons_zero, List.getElem?_cons_succ, List.set_cons_succ, List.set_cons_zero, if_true, Bool.false_eq_true, if_false, Option.map_some, Bool.not_true, Bool.not_false, Bool.true_or, Bool.or_true, Bool.false_or, Bool.or_false, Bool.true_and, Bool.and_true, Bool.false_and, Bool.and_false, eq_self, decide_true, decide_false, beq_self_eq_true, of_some, litD_f, litD_t, bin_add, bin_sub, bin_band, cmp_lti, cmp_lts, cmp_le, cmp_gt, cmp_ge, cmp_none, cmp_nnone, cmp_true, cmp_ntrue, ofB_some, cmp_in, cmp_nin, nonD_non, nonD_s, nonD_t, nonD_i, nonD_l, nonD_r, nonD_b, deref_s, deref_t, deref_l, deref_i, deref_b, deref_n, ok_s, ok_i, ok_b, ok_n, mem_s, flat_s, flat_i, flat_b, flat_n, ix_s, ix_t, ix_l, items_t, items_l, len_s, len_t2, len_t4, len_l, tuple_s, tuple_t, tuple_l, list_s, list_t, list_l, blt_max, blt_min, blt_all, blt_any, ty_s, ty_t, ty_l, ty_i, ty_b, ty_n, rec_join, rec_idx, rec_idxT, tupOnly_t, blt_int1, it_s, it_t, it_l, compI_sq, forI_sq, bind1, rev_s, rev_t, rev_l, blt_inrg, blt_ninrg, rec_upr, bind2, sl_t, sl_s, sl_l, part_i, eq_ss, eq_ii, eq_bb, eq_tn, eq_tc, eq_tc0, eq_t0c, in_nil, in_cons, in_strs, in_sgn, flat_map, all_true, cmp_eq_ii, cmp_eq_ss, cmp_eq_bb, cmp_ne_ii, cmp_ne_ss, bin_shrn, mem_strs, mem_strl, atI_0, atI_1, atI_2, atI_3]
  refine Ok.bind (e_no (k := k + 4) g) ?_
  rintro ⟨_, S2⟩ ⟨ds, R, rfl, dr, hbad⟩
  have dr : DR S2 R := dr
  simp only [w_okb, w_bb, w_var, w_con, w_glo, w_tup, w_lst, w_dct, w_bin, w_not, w_and, w_or, w_cmp, w_chain, w_ix, w_call, w_blt, w_mth, w_comp, w_sl, w_rev, w_neg, w_nil, w_cons, w_and1, w_and2, w_or1, w_or2, w_asg, w_exp, w_ret, w_anm, w_asub, w_orv, w_dcn0, w_dcn1, w_whl, w_callv, w_wipe1, w_wipe2, Ok.ok_iff, subTy, List.getElem?_cons_zero, List.getElem?_cons_succ, List.set_cons_succ, List.set_cons_zero, if_true, Bool.false_eq_true, if_false, Option.map_some, Bool.not_true, Bool.not_false, Bool.true_or, Bool.or_true, Bool.false_or, Bool.or_false, Bool.true_and, Bool.and_true, Bool.false_and, Bool.and_false, eq_self, decide_true, decide_false, beq_self_eq_true, of_some, litD_f, litD_t, bin_add, bin_sub, bin_band, cmp_lti, cmp_lts, cmp_le, cmp_gt, cmp_ge, cmp_none, cmp_nnone, cmp_true, cmp_ntrue, ofB_some, cmp_in, cmp_nin, nonD_non, nonD_s, nonD_t, nonD_i, nonD_l, nonD_r, nonD_b, deref_s, deref_t, deref_l, deref_i, deref_b, deref_n, ok_s, ok_i, ok_b, ok_n, mem_s, flat_s, flat_i, flat_b, flat_n, ix_s, ix_t, ix_l, items_t, items_l, len_s, len_t2, len_t4, len_l, tuple_s, tuple_t, tuple_l, list_s, list_t, list_l, blt_max, blt_min, blt_all, blt_any, ty_s, ty_t, ty_l, ty_i, ty_b, ty_n, rec_join, rec_idx, rec_idxT, tupOnly_t, blt_int1, it_s, it_t, it_l, compI_sq, forI_sq, bind1, rev_s, rev_t, rev_l, blt_inrg, blt_ninrg, rec_upr, bind2, sl_t, sl_s, sl_l, part_i, eq_ss, eq_ii, eq_bb, eq_tn, eq_tc, eq_tc0, eq_t0c, in_nil, in_cons, in_strs, in_sgn, flat_map, all_true, cmp_eq_ii, cmp_eq_ss, cmp_eq_bb, cmp_ne_ii, cmp_ne_ss, bin_shrn, mem_strs, mem_strl, atI_0, atI_1, atI_2, atI_3]
  rw [compL_tt fun d hd => by
    obtain ⟨h1, h2⟩ := hbad d hd
    simp only [w_okb, w_bb, w_var, w_con, w_glo, w_tup, w_lst, w_dct, w_bin, w_not, w_and, w_or, w_cmp, w_chain, w_ix, w_call, w_blt, w_mth, w_comp, w_sl, w_rev, w_neg, w_nil, w_cons, w_and1, w_and2, w_or1, w_or2, w_asg, w_exp, w_ret, w_anm, w_asub, w_orv, w_dcn0, w_dcn1, w_whl, w_callv, w_wipe1, w_wipe2, Ok.ok_iff, subTy, List.getElem?_cons_zero, List.getElem?_cons_succ, List.set_cons_succ, List.set_cons_zero, if_true, Bool.false_eq_true, if_false, Option.map_some, Bool.not_true, Bool.not_false, Bool.true_or, Bool.or_true, Bool.false_or, Bool.or_false, Bool.true_and, Bool.and_true, Bool.false_and, Bool.and_false, eq_self, decide_true, decide_false, beq_self_eq_true, of_some, litD_f, litD_t, bin_add, bin_sub, bin_band, cmp_lti, cmp_lts, cmp_le, cmp_gt, cmp_ge, cmp_none, cmp_nnone, cmp_true, cmp_ntrue, ofB_some, cmp_in, cmp_nin, nonD_non, nonD_s, nonD_t, nonD_i, nonD_l, nonD_r, nonD_b, deref_s, deref_t, deref_l, deref_i, deref_b, deref_n, ok_s, ok_i, ok_b, ok_n, mem_s, flat_s, flat_i, flat_b, flat_n, ix_s, ix_t, ix_l, items_t, items_l, len_s, len_t2, len_t4, len_l, tuple_s, tuple_t, tuple_l, list_s, list_t, list_l, blt_max, blt_min, blt_all, blt_any, ty_s, ty_t, ty_l, ty_i, ty_b, ty_n, rec_join, rec_idx, rec_idxT, tupOnly_t, blt_int1, it_s, it_t, it_l, compI_sq, forI_sq, bind1, rev_s, rev_t, rev_l, blt_inrg, blt_ninrg, rec_upr, bind2, sl_t, sl_s, sl_l, part_i, eq_ss, eq_ii, eq_bb, eq_tn, eq_tc, eq_tc0, eq_t0c, in_nil, in_cons, in_strs, in_sgn, flat_map, all_true, cmp_eq_ii, cmp_eq_ss, cmp_eq_bb, cmp_ne_ii, cmp_ne_ss, bin_shrn, mem_strs, mem_strl, atI_0, atI_1, atI_2, atI_3, e_stockD (k := k + 1) (gd_R dr 3 h1), h2, e_isx (k := k + 4)]]
  simp only [w_okb, w_bb, w_var, w_con, w_glo, w_tup, w_lst, w_dct, w_bin, w_not, w_and, w_or, w_cmp, w_chain, w_ix, w_call, w_blt, w_mth, w_comp, w_sl, w_rev, w_neg, w_nil, w_cons, w_and1, w_and2, w_or1, w_or2, w_asg, w_exp, w_ret, w_anm, w_asub, w_orv, w_dcn0, w_dcn1, w_whl, w_callv, w_wipe1, w_wipe2, Ok.ok_iff, subTy, List.getElem?_cons_zero, List.getElem?_cons_succ, List.set_cons_succ, List.set_cons_zero, if_true, Bool.false_eq_true, if_false, Option.map_some, Bool.not_true, Bool.not_false, Bool.true_or, Bool.or_true, Bool.false_or, Bool.or_false, Bool.true_and, Bool.and_true, Bool.false_and, Bool.and_false, eq_self, decide_true, decide_false, beq_self_eq_true, of_some, litD_f, litD_t, bin_add, bin_sub, bin_band, cmp_lti, cmp_lts, cmp_le, cmp_gt, cmp_ge, cmp_none, cmp_nnone, cmp_true, cmp_ntrue, ofB_some, cmp_in, cmp_nin, nonD_non, nonD_s, nonD_t, nonD_i, nonD_l, nonD_r, nonD_b, deref_s, deref_t, deref_l, deref_i, deref_b, deref_n, ok_s, ok_i, ok_b, ok_n, mem_s, flat_s, flat_i, flat_b, flat_n, ix_s, ix_t, ix_l, items_t, items_l, len_s, len_t2, len_t4, len_l, tuple_s, tuple_t, tuple_l, list_s, list_t, list_l, blt_max, blt_min, blt_all, blt_any, ty_s, ty_t, ty_l, ty_i, ty_b, ty_n, rec_join, rec_idx, rec_idxT, tupOnly_t, blt_int1, it_s, it_t, it_l, compI_sq, forI_sq, bind1, rev_s, rev_t, rev_l, blt_inrg, blt_ninrg, rec_upr, bind2, sl_t, sl_s, sl_l, part_i, eq_ss, eq_ii, eq_bb, eq_tn, eq_tc, eq_tc0, eq_t0c, in_nil, in_cons, in_strs, in_sgn, flat_map, all_true, cmp_eq_ii, cmp_eq_ss, cmp_eq_bb, cmp_ne_ii, cmp_ne_ss, bin_shrn, mem_strs, mem_strl, atI_0, atI_1, atI_2, atI_3, blt_all, all_tt2]
  refine i_f (ss_nil (nx (ss_cons ?_)))
  have ej : (j : Int) + 1 = ((j + 1 : Nat) : Int) := by omega
  simp only [w_okb, w_bb, w_var, w_con, w_glo, w_tup, w_lst, w_dct, w_bin, w_not, w_and, w_or, w_cmp, w_chain, w_ix, w_call, w_blt, w_mth, w_comp, w_sl, w_rev, w_neg, w_nil, w_cons, w_and1, w_and2, w_or1, w_or2, w_asg, w_exp, w_ret, w_anm, w_asub, w_orv, w_dcn0, w_dcn1, w_whl, w_callv, w_wipe1, w_wipe2, Ok.ok_iff, subTy, List.getElem?_cons_zero, List.getElem?_cons_succ, List.set_cons_succ, List.set_cons_zero, if_true, Bool.false_eq_true, if_false, Option.map_some, Bool.not_true, Bool.not_false, Bool.true_or, Bool.or_true, Bool.false_or, Bool.or_false, Bool.true_and, Bool.and_true, Bool.false_and, Bool.and_false, eq_self, decide_true, decide_false, beq_self_eq_true, of_some, litD_f, litD_t, bin_add, bin_sub, bin_band, cmp_lti, cmp_lts, cmp_le, cmp_gt, cmp_ge, cmp_none, cmp_nnone, cmp_true, cmp_ntrue, ofB_some, cmp_in, cmp_nin, nonD_non, nonD_s, nonD_t, nonD_i, nonD_l, nonD_r, nonD_b, deref_s, deref_t, deref_l, deref_i, deref_b, deref_n, ok_s, ok_i, ok_b, ok_n, mem_s, flat_s, flat_i, flat_b, flat_n, ix_s, ix_t, ix_l, items_t, items_l, len_s, len_t2, len_t4, len_l, tuple_s, tuple_t, tuple_l, list_s, list_t, list_l, blt_max, blt_min, blt_all, blt_any, ty_s, ty_t, ty_l, ty_i, ty_b, ty_n, rec_join, rec_idx, rec_idxT, tupOnly_t, blt_int1, it_s, it_t, it_l, compI_sq, forI_sq, bind1, rev_s, rev_t, rev_l, blt_inrg, blt_ninrg, rec_upr, bind2, sl_t, sl_s, sl_l, part_i, eq_ss, eq_ii, eq_bb, eq_tn, eq_tc, eq_tc0, eq_t0c, in_nil, in_cons, in_strs, in_sgn, flat_map, all_true, cmp_eq_ii, cmp_eq_ss, cmp_eq_bb, cmp_ne_ii, cmp_ne_ss, bin_shrn, mem_strs, mem_strl, atI_0, atI_1, atI_2, atI_3, ej]
  refine Ok.bind (e_pack (k := k + 3) (j := j + 1) (by omega) hz) ?_
  rintro ⟨_, _⟩ ⟨rfl, N2, rfl⟩
  have hp2 : Pk S2.length (S2 ++ [.lst [.int N2]]) := ⟨N2, by simp⟩
  generalize S2 ++ [O.lst [.int N2]] = S3 at hp2 ⊢
  generalize S2.length = n2 at hp2 ⊢
  simp only [w_okb, w_bb, w_var, w_con, w_glo, w_tup, w_lst, w_dct, w_bin, w_not, w_and, w_or, w_cmp, w_chain, w_ix, w_call, w_blt, w_mth, w_comp, w_sl, w_rev, w_neg, w_nil, w_cons, w_and1, w_and2, w_or1, w_or2, w_asg, w_exp, w_ret, w_anm, w_asub, w_orv, w_dcn0, w_dcn1, w_whl, w_callv, w_wipe1, w_wipe2, Ok.ok_iff, subTy, List.getElem?_cons_zero, List.getElem?_cons_succ, List.set_cons_succ, List.set_cons_zero, if_true, Bool.false_eq_true, if_false, Option.map_some, Bool.not_true, Bool.not_false, Bool.true_or, Bool.or_true, Bool.false_or, Bool.or_false, Bool.true_and, Bool.and_true, Bool.false_and, Bool.and_false, eq_self, decide_true, decide_false, beq_self_eq_true, of_some, litD_f, litD_t, bin_add, bin_sub, bin_band, cmp_lti, cmp_lts, cmp_le, cmp_gt, cmp_ge, cmp_none, cmp_nnone, cmp_true, cmp_ntrue, ofB_some, cmp_in, cmp_nin, nonD_non, nonD_s, nonD_t, nonD_i, nonD_l, nonD_r, nonD_b, deref_s, deref_t, deref_l, deref_i, deref_b, deref_n, ok_s, ok_i, ok_b, ok_n, mem_s, flat_s, flat_i, flat_b, flat_n, ix_s, ix_t, ix_l, items_t, items_l, len_s, len_t2, len_t4, len_l, tuple_s, tuple_t, tuple_l, list_s, list_t, list_l, blt_max, blt_min, blt_all, blt_any, ty_s, ty_t, ty_l, ty_i, ty_b, ty_n, rec_join, rec_idx, rec_idxT, tupOnly_t, blt_int1, it_s, it_t, it_l, compI_sq, forI_sq, bind1, rev_s, rev_t, rev_l, blt_inrg, blt_ninrg, rec_upr, bind2, sl_t, sl_s, sl_l, part_i, eq_ss, eq_ii, eq_bb, eq_tn, eq_tc, eq_tc0, eq_t0c, in_nil, in_cons, in_strs, in_sgn, flat_map, all_true, cmp_eq_ii, cmp_eq_ss, cmp_eq_bb, cmp_ne_ii, cmp_ne_ss, bin_shrn, mem_strs, mem_strl, atI_0, atI_1, atI_2, atI_3]
  refine nx (ss_cons ?_)
  simp only [w_okb, w_bb, w_var, w_con, w_glo, w_tup, w_lst, w_dct, w_bin, w_not, w_and, w_or, w_cmp, w_chain, w_ix, w_call, w_blt, w_mth, w_comp, w_sl, w_rev, w_neg, w_nil, w_cons, w_and1, w_and2, w_or1, w_or2, w_asg, w_exp, w_ret, w_anm, w_asub, w_orv, w_dcn0, w_dcn1, w_whl, w_callv, w_wipe1, w_wipe2, Ok.ok_iff, subTy, List.getElem?_cons_zero, List.getElem?_cons_succ, List.set_cons_succ, List.set_cons_zero, if_true, Bool.false_eq_true, if_false, Option.map_some, Bool.not_true, Bool.not_false, Bool.true_or, Bool.or_true, Bool.false_or, Bool.or_false, Bool.true_and, Bool.and_true, Bool.false_and, Bool.and_false, eq_self, decide_true, decide_false, beq_self_eq_true, of_some, litD_f, litD_t, bin_add, bin_sub, bin_band, cmp_lti, cmp_lts, cmp_le, cmp_gt, cmp_ge, cmp_none, cmp_nnone, cmp_true, cmp_ntrue, ofB_some, cmp_in, cmp_nin, nonD_non, nonD_s, nonD_t, nonD_i, nonD_l, nonD_r, nonD_b, deref_s, deref_t, deref_l, deref_i, deref_b, deref_n, ok_s, ok_i, ok_b, ok_n, mem_s, flat_s, flat_i, flat_b, flat_n, ix_s, ix_t, ix_l, items_t, items_l, len_s, len_t2, len_t4, len_l, tuple_s, tuple_t, tuple_l, list_s, list_t, list_l, blt_max, blt_min, blt_all, blt_any, ty_s, ty_t, ty_l, ty_i, ty_b, ty_n, rec_join, rec_idx, rec_idxT, tupOnly_t, blt_int1, it_s, it_t, it_l, compI_sq, forI_sq, bind1, rev_s, rev_t, rev_l, blt_inrg, blt_ninrg, rec_upr, bind2, sl_t, sl_s, sl_l, part_i, eq_ss, eq_ii, eq_bb, eq_tn, eq_tc, eq_tc0, eq_t0c, in_nil, in_cons, in_strs, in_sgn, flat_map, all_true, cmp_eq_ii, cmp_eq_ss, cmp_eq_bb, cmp_ne_ii, cmp_ne_ss, bin_shrn, mem_strs, mem_strl, atI_0, atI_1, atI_2, atI_3]
  refine nx (ss_cons ?_)
  simp only [w_okb, w_bb, w_var, w_con, w_glo, w_tup, w_lst, w_dct, w_bin, w_not, w_and, w_or, w_cmp, w_chain, w_ix, w_call, w_blt, w_mth, w_comp, w_sl, w_rev, w_neg, w_nil, w_cons, w_and1, w_and2, w_or1, w_or2, w_asg, w_exp, w_ret, w_anm, w_asub, w_orv, w_dcn0, w_dcn1, w_whl, w_callv, w_wipe1, w_wipe2, Ok.ok_iff, subTy, List.getElem?_cons_zero, List.getElem?_cons_succ, List.set_cons_succ, List.set_cons_zero, if_true, Bool.false_eq_true, if_false, Option.map_some, Bool.not_true, Bool.not_false, Bool.true_or, Bool.or_true, Bool.false_or, Bool.or_false, Bool.true_and, Bool.and_true, Bool.false_and, Bool.and_false, eq_self, decide_true, decide_false, beq_self_eq_true, of_some, litD_f, litD_t, bin_add, bin_sub, bin_band, cmp_lti, cmp_lts, cmp_le, cmp_gt, cmp_ge, cmp_none, cmp_nnone, cmp_true, cmp_ntrue, ofB_some, cmp_in, cmp_nin, nonD_non, nonD_s, nonD_t, nonD_i, nonD_l, nonD_r, nonD_b, deref_s, deref_t, deref_l, deref_i, deref_b, deref_n, ok_s, ok_i, ok_b, ok_n, mem_s, flat_s, flat_i, flat_b, flat_n, ix_s, ix_t, ix_l, items_t, items_l, len_s, len_t2, len_t4, len_l, tuple_s, tuple_t, tuple_l, list_s, list_t, list_l, blt_max, blt_min, blt_all, blt_any, ty_s, ty_t, ty_l, ty_i, ty_b, ty_n, rec_join, rec_idx, rec_idxT, tupOnly_t, blt_int1, it_s, it_t, it_l, compI_sq, forI_sq, bind1, rev_s, rev_t, rev_l, blt_inrg, blt_ninrg, rec_upr, bind2, sl_t, sl_s, sl_l, part_i, eq_ss, eq_ii, eq_bb, eq_tn, eq_tc, eq_tc0, eq_t0c, in_nil, in_cons, in_strs, in_sgn, flat_map, all_true, cmp_eq_ii, cmp_eq_ss, cmp_eq_bb, cmp_ne_ii, cmp_ne_ss, bin_shrn, mem_strs, mem_strl, atI_0, atI_1, atI_2, atI_3]
  refine Ok.bind (e_take (k := k + 4) (m := (signs1.length : Int)) hp2 (by decide) (by decide)) ?_
  rintro ⟨_, S4⟩ ⟨r, hr, rfl, f4⟩
  have f4 : Fr1 n2 S3 S4 := f4
  have hr : r < signs1.length := by omega
  obtain ⟨c, hc⟩ : ∃ c, signs1[r]? = some c := ⟨_, List.getElem?_eq_getElem hr⟩
  have hcs : c ∉ small26 := signs1_no c (List.mem_of_getElem? hc)
  have ha : atI signs1 (r : Int) = some c := by rw [atI_n, hc]
  simp only [w_okb, w_bb, w_var, w_con, w_glo, w_tup, w_lst, w_dct, w_bin, w_not, w_and, w_or, w_cmp, w_chain, w_ix, w_call, w_blt, w_mth, w_comp, w_sl, w_rev, w_neg, w_nil, w_cons, w_and1, w_and2, w_or1, w_or2, w_asg, w_exp, w_ret, w_anm, w_asub, w_orv, w_dcn0, w_dcn1, w_whl, w_callv, w_wipe1, w_wipe2, Ok.ok_iff, subTy, List.getElem?_cons_zero, List.getElem?_cons_succ, List.set_cons_succ, List.set_cons_zero, if_true, Bool.false_eq_true, if_false, Option.map_some, Bool.not_true, Bool.not_false, Bool.true_or, Bool.or_true, Bool.false_or, Bool.or_false, Bool.true_and, Bool.and_true, Bool.false_and, Bool.and_false, eq_self, decide_true, decide_false, beq_self_eq_true, of_some, litD_f, litD_t, bin_add, bin_sub, bin_band, cmp_lti, cmp_lts, cmp_le, cmp_gt, cmp_ge, cmp_none, cmp_nnone, cmp_true, cmp_ntrue, ofB_some, cmp_in, cmp_nin, nonD_non, nonD_s, nonD_t, nonD_i, nonD_l, nonD_r, nonD_b, deref_s, deref_t, deref_l, deref_i, deref_b, deref_n, ok_s, ok_i, ok_b, ok_n, mem_s, flat_s, flat_i, flat_b, flat_n, ix_s, ix_t, ix_l, items_t, items_l, len_s, len_t2, len_t4, len_l, tuple_s, tuple_t, tuple_l, list_s, list_t, list_l, blt_max, blt_min, blt_all, blt_any, ty_s, ty_t, ty_l, ty_i, ty_b, ty_n, rec_join, rec_idx, rec_idxT, tupOnly_t, blt_int1, it_s, it_t, it_l, compI_sq, forI_sq, bind1, rev_s, rev_t, rev_l, blt_inrg, blt_ninrg, rec_upr, bind2, sl_t, sl_s, sl_l, part_i, eq_ss, eq_ii, eq_bb, eq_tn, eq_tc, eq_tc0, eq_t0c, in_nil, in_cons, in_strs, in_sgn, flat_map, all_true, cmp_eq_ii, cmp_eq_ss, cmp_eq_bb, cmp_ne_ii, cmp_ne_ss, bin_shrn, mem_strs, mem_strl, atI_0, atI_1, atI_2, atI_3, ha]
  refine nx (ss_cons ?_)
  simp only [w_okb, w_bb, w_var, w_con, w_glo, w_tup, w_lst, w_dct, w_bin, w_not, w_and, w_or, w_cmp, w_chain, w_ix, w_call, w_blt, w_mth, w_comp, w_sl, w_rev, w_neg, w_nil, w_cons, w_and1, w_and2, w_or1, w_or2, w_asg, w_exp, w_ret, w_anm, w_asub, w_orv, w_dcn0, w_dcn1, w_whl, w_callv, w_wipe1, w_wipe2, Ok.ok_iff, subTy, List.getElem?_cons_zero, List.getElem?_cons_succ, List.set_cons_succ, List.set_cons_zero, if_true, Bool.false_eq_true, if_false, Option.map_some, Bool.not_true, Bool.not_false, Bool.true_or, Bool.or_true, Bool.false_or, Bool.or_false, Bool.true_and, Bool.and_true, Bool.false_and, Bool.and_false, eq_self, decide_true, decide_false, beq_self_eq_true, of_some, litD_f, litD_t, bin_add, bin_sub, bin_band, cmp_lti, cmp_lts, cmp_le, cmp_gt, cmp_ge, cmp_none, cmp_nnone, cmp_true, cmp_ntrue, ofB_some, cmp_in, cmp_nin, nonD_non, nonD_s, nonD_t, nonD_i, nonD_l, nonD_r, nonD_b, deref_s, deref_t, deref_l, deref_i, deref_b, deref_n, ok_s, ok_i, ok_b, ok_n, mem_s, flat_s, flat_i, flat_b, flat_n, ix_s, ix_t, ix_l, items_t, items_l, len_s, len_t2, len_t4, len_l, tuple_s, tuple_t, tuple_l, list_s, list_t, list_l, blt_max, blt_min, blt_all, blt_any, ty_s, ty_t, ty_l, ty_i, ty_b, ty_n, rec_join, rec_idx, rec_idxT, tupOnly_t, blt_int1, it_s, it_t, it_l, compI_sq, forI_sq, bind1, rev_s, rev_t, rev_l, blt_inrg, blt_ninrg, rec_upr, bind2, sl_t, sl_s, sl_l, part_i, eq_ss, eq_ii, eq_bb, eq_tn, eq_tc, eq_tc0, eq_t0c, in_nil, in_cons, in_strs, in_sgn, flat_map, all_true, cmp_eq_ii, cmp_eq_ss, cmp_eq_bb, cmp_ne_ii, cmp_ne_ss, bin_shrn, mem_strs, mem_strl, atI_0, atI_1, atI_2, atI_3]
  refine Ok.bind (e_take (k := k + 4) (m := 8) f4.pk (by decide) (by decide)) ?_
  rintro ⟨_, S5⟩ ⟨q, hq, rfl, f5⟩
  have hq : q < 8 := by omega
  have ec : cut ['a', 'b', 'c', 'd', 'e', 'f', 'g'] none (some (q : Int)) = ['a', 'b', 'c', 'd', 'e', 'f', 'g'].take q := cut_tk _ _
  simp only [w_okb, w_bb, w_var, w_con, w_glo, w_tup, w_lst, w_dct, w_bin, w_not, w_and, w_or, w_cmp, w_chain, w_ix, w_call, w_blt, w_mth, w_comp, w_sl, w_rev, w_neg, w_nil, w_cons, w_and1, w_and2, w_or1, w_or2, w_asg, w_exp, w_ret, w_anm, w_asub, w_orv, w_dcn0, w_dcn1, w_whl, w_callv, w_wipe1, w_wipe2, Ok.ok_iff, subTy, List.getElem?_cons_zero, List.getElem?_cons_succ, List.set_cons_succ, List.set_cons_zero, if_true, Bool.false_eq_true, if_false, Option.map_some, Bool.not_true, Bool.not_false, Bool.true_or, Bool.or_true, Bool.false_or, Bool.or_false, Bool.true_and, Bool.and_true, Bool.false_and, Bool.and_false, eq_self, decide_true, decide_false, beq_self_eq_true, of_some, litD_f, litD_t, bin_add, bin_sub, bin_band, cmp_lti, cmp_lts, cmp_le, cmp_gt, cmp_ge, cmp_none, cmp_nnone, cmp_true, cmp_ntrue, ofB_some, cmp_in, cmp_nin, nonD_non, nonD_s, nonD_t, nonD_i, nonD_l, nonD_r, nonD_b, deref_s, deref_t, deref_l, deref_i, deref_b, deref_n, ok_s, ok_i, ok_b, ok_n, mem_s, flat_s, flat_i, flat_b, flat_n, ix_s, ix_t, ix_l, items_t, items_l, len_s, len_t2, len_t4, len_l, tuple_s, tuple_t, tuple_l, list_s, list_t, list_l, blt_max, blt_min, blt_all, blt_any, ty_s, ty_t, ty_l, ty_i, ty_b, ty_n, rec_join, rec_idx, rec_idxT, tupOnly_t, blt_int1, it_s, it_t, it_l, compI_sq, forI_sq, bind1, rev_s, rev_t, rev_l, blt_inrg, blt_ninrg, rec_upr, bind2, sl_t, sl_s, sl_l, part_i, eq_ss, eq_ii, eq_bb, eq_tn, eq_tc, eq_tc0, eq_t0c, in_nil, in_cons, in_strs, in_sgn, flat_map, all_true, cmp_eq_ii, cmp_eq_ss, cmp_eq_bb, cmp_ne_ii, cmp_ne_ss, bin_shrn, mem_strs, mem_strl, atI_0, atI_1, atI_2, atI_3, ec]
  generalize hx : ['a', 'b', 'c', 'd', 'e', 'f', 'g'].take q = x
  have hxl : x.length ≤ 7 := by rw [← hx, List.length_take]; simp; omega
  have ad1 : ∀ S : Store, binD .add (.str x) (.str [c]) S = .ok (.str (x ++ [c]), S) := fun S => adds_ok (by rw [List.length_singleton]; omega)
  have ad2 : ∀ S : Store, binD .add (.str [c]) (.str x) S = .ok (.str ([c] ++ x), S) := fun S => adds_ok (by rw [List.length_singleton]; omega)
  have n1 : nameB (.str (x ++ [c])) = false := name_no (c := c) (by simp) hcs
  have n2 : nameB (.str ([c] ++ x)) = false := name_no (c := c) (by simp) hcs
  have n3 : nameB (.str [c]) = false := name_no (c := c) (by simp) hcs
  have s1 : stkB (.tup [.tup [.str [c], .tup []]]) = false := stk_any (d := .tup [.str [c], .tup []]) (by simp) (mkd_name n3)
  have s2 : stkB (.tup [.tup [.str ['a'], .tup [.str (x ++ [c])]]]) = false := by
    refine stk_any (d := .tup [.str ['a'], .tup [.str (x ++ [c])]]) (by simp) (mkd_marks ?_)
    show (decide (([.str (x ++ [c])] : List D).length ≤ 4) && ([.str (x ++ [c])] : List D).all nameB && _) = false
    have : ([.str (x ++ [c])] : List D).all nameB = false := by simp [n1]
    rw [this, Bool.and_false, Bool.false_and]
  refine nx (ss_cons (ite_ok ?_))
  simp only [w_okb, w_bb, w_var, w_con, w_glo, w_tup, w_lst, w_dct, w_bin, w_not, w_and, w_or, w_cmp, w_chain, w_ix, w_call, w_blt, w_mth, w_comp, w_sl, w_rev, w_neg, w_nil, w_cons, w_and1, w_and2, w_or1, w_or2, w_asg, w_exp, w_ret, w_anm, w_asub, w_orv, w_dcn0, w_dcn1, w_whl, w_callv, w_wipe1, w_wipe2, Ok.ok_iff, subTy, List.getElem?_cons_zero, List.getElem?_cons_succ, List.set_cons_succ, List.set_cons_zero, if_true, Bool.false_eq_true, if_false, Option.map_some, Bool.not_true, Bool.not_false, Bool.true_or, Bool.or_true, Bool.false_or, Bool.or_false, Bool.true_and, Bool.and_true, Bool.false_and, Bool.and_false, eq_self, decide_true, decide_false, beq_self_eq_true, of_some, litD_f, litD_t, bin_add, bin_sub, bin_band, cmp_lti, cmp_lts, cmp_le, cmp_gt, cmp_ge, cmp_none, cmp_nnone, cmp_true, cmp_ntrue, ofB_some, cmp_in, cmp_nin, nonD_non, nonD_s, nonD_t, nonD_i, nonD_l, nonD_r, nonD_b, deref_s, deref_t, deref_l, deref_i, deref_b, deref_n, ok_s, ok_i, ok_b, ok_n, mem_s, flat_s, flat_i, flat_b, flat_n, ix_s, ix_t, ix_l, items_t, items_l, len_s, len_t2, len_t4, len_l, tuple_s, tuple_t, tuple_l, list_s, list_t, list_l, blt_max, blt_min, blt_all, blt_any, ty_s, ty_t, ty_l, ty_i, ty_b, ty_n, rec_join, rec_idx, rec_idxT, tupOnly_t, blt_int1, it_s, it_t, it_l, compI_sq, forI_sq, bind1, rev_s, rev_t, rev_l, blt_inrg, blt_ninrg, rec_upr, bind2, sl_t, sl_s, sl_l, part_i, eq_ss, eq_ii, eq_bb, eq_tn, eq_tc, eq_tc0, eq_t0c, in_nil, in_cons, in_strs, in_sgn, flat_map, all_true, cmp_eq_ii, cmp_eq_ss, cmp_eq_bb, cmp_ne_ii, cmp_ne_ss, bin_shrn, mem_strs, mem_strl, atI_0, atI_1, atI_2, atI_3, ad1, ad2, e_nameD (k := k + 4) (S := S5) (d := .str (x ++ [c])) rfl, e_nameD (k := k + 4) (S := S5) (d := .str ([c] ++ x)) rfl, n1, n2, e_isx (k := k + 4)]
  refine i_f (ss_nil (nx (ss_cons (ite_ok ?_))))
  simp only [w_okb, w_bb, w_var, w_con, w_glo, w_tup, w_lst, w_dct, w_bin, w_not, w_and, w_or, w_cmp, w_chain, w_ix, w_call, w_blt, w_mth, w_comp, w_sl, w_rev, w_neg, w_nil, w_cons, w_and1, w_and2, w_or1, w_or2, w_asg, w_exp, w_ret, w_anm, w_asub, w_orv, w_dcn0, w_dcn1, w_whl, w_callv, w_wipe1, w_wipe2, Ok.ok_iff, subTy, List.getElem?_cons_zero, List.getElem?_cons_succ, List.set_cons_succ, List.set_cons_zero, if_true, Bool.false_eq_true, if_false, Option.map_some, Bool.not_true, Bool.not_false, Bool.true_or, Bool.or_true, Bool.false_or, Bool.or_false, Bool.true_and, Bool.and_true, Bool.false_and, Bool.and_false, eq_self, decide_true, decide_false, beq_self_eq_true, of_some, litD_f, litD_t, bin_add, bin_sub, bin_band, cmp_lti, cmp_lts, cmp_le, cmp_gt, cmp_ge, cmp_none, cmp_nnone, cmp_true, cmp_ntrue, ofB_some, cmp_in, cmp_nin, nonD_non, nonD_s, nonD_t, nonD_i, nonD_l, nonD_r, nonD_b, deref_s, deref_t, deref_l, deref_i, deref_b, deref_n, ok_s, ok_i, ok_b, ok_n, mem_s, flat_s, flat_i, flat_b, flat_n, ix_s, ix_t, ix_l, items_t, items_l, len_s, len_t2, len_t4, len_l, tuple_s, tuple_t, tuple_l, list_s, list_t, list_l, blt_max, blt_min, blt_all, blt_any, ty_s, ty_t, ty_l, ty_i, ty_b, ty_n, rec_join, rec_idx, rec_idxT, tupOnly_t, blt_int1, it_s, it_t, it_l, compI_sq, forI_sq, bind1, rev_s, rev_t, rev_l, blt_inrg, blt_ninrg, rec_upr, bind2, sl_t, sl_s, sl_l, part_i, eq_ss, eq_ii, eq_bb, eq_tn, eq_tc, eq_tc0, eq_t0c, in_nil, in_cons, in_strs, in_sgn, flat_map, all_true, cmp_eq_ii, cmp_eq_ss, cmp_eq_bb, cmp_ne_ii, cmp_ne_ss, bin_shrn, mem_strs, mem_strl, atI_0, atI_1, atI_2, atI_3, ad1, e_stockD (k := k + 1) (S := S5) (d := .tup [.tup [.str [c], .tup []]]) rfl, e_stockD (k := k + 1) (S := S5) (d := .tup [.tup [.str ['a'], .tup [.str (x ++ [c])]]]) rfl, s1, s2, e_isx (k := k + 4)]
  refine i_f (ss_nil (nx (ss_nil ⟨.inl rfl, _, _, _, _, _, _, _, _, _, _, _, rfl⟩)))
def depth : Nat := 10
theorem lawT_ok {k : Nat} {S : Store} {x0 x1 x2 x3 x4 x5 x6 x7 x8 x9 x10 x11 : Option D} : Ok (evSs (G2 k) lawT [x0, x1, x2, x3, x4, x5, x6, x7, x8, x9, x10, x11] S) (Rt fun p => p.1 = .bl true) := by
  unfold lawT
  refine ss_cons ?_
  simp only [w_okb, w_bb, w_var, w_con, w_glo, w_tup, w_lst, w_dct, w_bin, w_not, w_and, w_or, w_cmp, w_chain, w_ix, w_call, w_blt, w_mth, w_comp, w_sl, w_rev, w_neg, w_nil, w_cons, w_and1, w_and2, w_or1, w_or2, w_asg, w_exp, w_ret, w_anm, w_asub, w_orv, w_dcn0, w_dcn1, w_whl, w_callv, w_wipe1, w_wipe2, Ok.ok_iff, subTy, List.getElem?_cons_zero, List.getElem?_cons_succ, List.set_cons_succ, List.set_cons_zero, if_true, Bool.false_eq_true, if_false, Option.map_some, Bool.not_true, Bool.not_false, Bool.true_or, Bool.or_true, Bool.false_or, Bool.or_false, Bool.true_and, Bool.and_true, Bool.false_and, Bool.and_false, eq_self, decide_true, decide_false, beq_self_eq_true, of_some, litD_f, litD_t, bin_add, bin_sub, bin_band, cmp_lti, cmp_lts, cmp_le, cmp_gt, cmp_ge, cmp_none, cmp_nnone, cmp_true, cmp_ntrue, ofB_some, cmp_in, cmp_nin, nonD_non, nonD_s, nonD_t, nonD_i, nonD_l, nonD_r, nonD_b, deref_s, deref_t, deref_l, deref_i, deref_b, deref_n, ok_s, ok_i, ok_b, ok_n, mem_s, flat_s, flat_i, flat_b, flat_n, ix_s, ix_t, ix_l, items_t, items_l, len_s, len_t2, len_t4, len_l, tuple_s, tuple_t, tuple_l, list_s, list_t, list_l, blt_max, blt_min, blt_all, blt_any, ty_s, ty_t, ty_l, ty_i, ty_b, ty_n, rec_join, rec_idx, rec_idxT, tupOnly_t, blt_int1, it_s, it_t, it_l, compI_sq, forI_sq, bind1, rev_s, rev_t, rev_l, blt_inrg, blt_ninrg, rec_upr, bind2, sl_t, sl_s, sl_l, part_i, eq_ss, eq_ii, eq_bb, eq_tn, eq_tc, eq_tc0, eq_t0c, in_nil, in_cons, in_strs, in_sgn, flat_map, all_true, cmp_eq_ii, cmp_eq_ss, cmp_eq_bb, cmp_ne_ii, cmp_ne_ss, bin_shrn, mem_strs, mem_strl, atI_0, atI_1, atI_2, atI_3]
  rw [compL_map (i := fun c : Char => D.str [c]) (g := fun c => D.tup [.str [c], .tup [.str ['a'], .str ['b'], .str ['c'], .str ['d']]]) fun c _ => by simp only [w_okb, w_bb, w_var, w_con, w_glo, w_tup, w_lst, w_dct, w_bin, w_not, w_and, w_or, w_cmp, w_chain, w_ix, w_call, w_blt, w_mth, w_comp, w_sl, w_rev, w_neg, w_nil, w_cons, w_and1, w_and2, w_or1, w_or2, w_asg, w_exp, w_ret, w_anm, w_asub, w_orv, w_dcn0, w_dcn1, w_whl, w_callv, w_wipe1, w_wipe2, Ok.ok_iff, subTy, List.getElem?_cons_zero, List.getElem?_cons_succ, List.set_cons_succ, List.set_cons_zero, if_true, Bool.false_eq_true, if_false, Option.map_some, Bool.not_true, Bool.not_false, Bool.true_or, Bool.or_true, Bool.false_or, Bool.or_false, Bool.true_and, Bool.and_true, Bool.false_and, Bool.and_false, eq_self, decide_true, decide_false, beq_self_eq_true, of_some, litD_f, litD_t, bin_add, bin_sub, bin_band, cmp_lti, cmp_lts, cmp_le, cmp_gt, cmp_ge, cmp_none, cmp_nnone, cmp_true, cmp_ntrue, ofB_some, cmp_in, cmp_nin, nonD_non, nonD_s, nonD_t, nonD_i, nonD_l, nonD_r, nonD_b, deref_s, deref_t, deref_l, deref_i, deref_b, deref_n, ok_s, ok_i, ok_b, ok_n, mem_s, flat_s, flat_i, flat_b, flat_n, ix_s, ix_t, ix_l, items_t, items_l, len_s, len_t2, len_t4, len_l, tuple_s, tuple_t, tuple_l, list_s, list_t, list_l, blt_max, blt_min, blt_all, blt_any, ty_s, ty_t, ty_l, ty_i, ty_b, ty_n, rec_join, rec_idx, rec_idxT, tupOnly_t, blt_int1, it_s, it_t, it_l, compI_sq, forI_sq, bind1, rev_s, rev_t, rev_l, blt_inrg, blt_ninrg, rec_upr, bind2, sl_t, sl_s, sl_l, part_i, eq_ss, eq_ii, eq_bb, eq_tn, eq_tc, eq_tc0, eq_t0c, in_nil, in_cons, in_strs, in_sgn, flat_map, all_true, cmp_eq_ii, cmp_eq_ss, cmp_eq_bb, cmp_ne_ii, cmp_ne_ss, bin_shrn, mem_strs, mem_strl, atI_0, atI_1, atI_2, atI_3]]
  simp only [w_okb, w_bb, w_var, w_con, w_glo, w_tup, w_lst, w_dct, w_bin, w_not, w_and, w_or, w_cmp, w_chain, w_ix, w_call, w_blt, w_mth, w_comp, w_sl, w_rev, w_neg, w_nil, w_cons, w_and1, w_and2, w_or1, w_or2, w_asg, w_exp, w_ret, w_anm, w_asub, w_orv, w_dcn0, w_dcn1, w_whl, w_callv, w_wipe1, w_wipe2, Ok.ok_iff, subTy, List.getElem?_cons_zero, List.getElem?_cons_succ, List.set_cons_succ, List.set_cons_zero, if_true, Bool.false_eq_true, if_false, Option.map_some, Bool.not_true, Bool.not_false, Bool.true_or, Bool.or_true, Bool.false_or, Bool.or_false, Bool.true_and, Bool.and_true, Bool.false_and, Bool.and_false, eq_self, decide_true, decide_false, beq_self_eq_true, of_some, litD_f, litD_t, bin_add, bin_sub, bin_band, cmp_lti, cmp_lts, cmp_le, cmp_gt, cmp_ge, cmp_none, cmp_nnone, cmp_true, cmp_ntrue, ofB_some, cmp_in, cmp_nin, nonD_non, nonD_s, nonD_t, nonD_i, nonD_l, nonD_r, nonD_b, deref_s, deref_t, deref_l, deref_i, deref_b, deref_n, ok_s, ok_i, ok_b, ok_n, mem_s, flat_s, flat_i, flat_b, flat_n, ix_s, ix_t, ix_l, items_t, items_l, len_s, len_t2, len_t4, len_l, tuple_s, tuple_t, tuple_l, list_s, list_t, list_l, blt_max, blt_min, blt_all, blt_any, ty_s, ty_t, ty_l, ty_i, ty_b, ty_n, rec_join, rec_idx, rec_idxT, tupOnly_t, blt_int1, it_s, it_t, it_l, compI_sq, forI_sq, bind1, rev_s, rev_t, rev_l, blt_inrg, blt_ninrg, rec_upr, bind2, sl_t, sl_s, sl_l, part_i, eq_ss, eq_ii, eq_bb, eq_tn, eq_tc, eq_tc0, eq_t0c, in_nil, in_cons, in_strs, in_sgn, flat_map, all_true, cmp_eq_ii, cmp_eq_ss, cmp_eq_bb, cmp_ne_ii, cmp_ne_ss, bin_shrn, mem_strs, mem_strl, atI_0, atI_1, atI_2, atI_3]
  refine nx (ss_cons (ite_ok ?_))
  have s1 : stkB (.tup (['b', 'c', 'x', 'z'].map fun c => D.tup [.str [c], .tup [.str ['a'], .str ['b'], .str ['c'], .str ['d']]])) = true := by decide +kernel
  simp only [w_okb, w_bb, w_var, w_con, w_glo, w_tup, w_lst, w_dct, w_bin, w_not, w_and, w_or, w_cmp, w_chain, w_ix, w_call, w_blt, w_mth, w_comp, w_sl, w_rev, w_neg, w_nil, w_cons, w_and1, w_and2, w_or1, w_or2, w_asg, w_exp, w_ret, w_anm, w_asub, w_orv, w_dcn0, w_dcn1, w_whl, w_callv, w_wipe1, w_wipe2, Ok.ok_iff, subTy, List.getElem?_cons_zero, List.getElem?_cons_succ, List.set_cons_succ, List.set_cons_zero, if_true, Bool.false_eq_true, if_false, Option.map_some, Bool.not_true, Bool.not_false, Bool.true_or, Bool.or_true, Bool.false_or, Bool.or_false, Bool.true_and, Bool.and_true, Bool.false_and, Bool.and_false, eq_self, decide_true, decide_false, beq_self_eq_true, of_some, litD_f, litD_t, bin_add, bin_sub, bin_band, cmp_lti, cmp_lts, cmp_le, cmp_gt, cmp_ge, cmp_none, cmp_nnone, cmp_true, cmp_ntrue, ofB_some, cmp_in, cmp_nin, nonD_non, nonD_s, nonD_t, nonD_i, nonD_l, nonD_r, nonD_b, deref_s, deref_t, deref_l, deref_i, deref_b, deref_n, ok_s, ok_i, ok_b, ok_n, mem_s, flat_s, flat_i, flat_b, flat_n, ix_s, ix_t, ix_l, items_t, items_l, len_s, len_t2, len_t4, len_l, tuple_s, tuple_t, tuple_l, list_s, list_t, list_l, blt_max, blt_min, blt_all, blt_any, ty_s, ty_t, ty_l, ty_i, ty_b, ty_n, rec_join, rec_idx, rec_idxT, tupOnly_t, blt_int1, it_s, it_t, it_l, compI_sq, forI_sq, bind1, rev_s, rev_t, rev_l, blt_inrg, blt_ninrg, rec_upr, bind2, sl_t, sl_s, sl_l, part_i, eq_ss, eq_ii, eq_bb, eq_tn, eq_tc, eq_tc0, eq_t0c, in_nil, in_cons, in_strs, in_sgn, flat_map, all_true, cmp_eq_ii, cmp_eq_ss, cmp_eq_bb, cmp_ne_ii, cmp_ne_ss, bin_shrn, mem_strs, mem_strl, atI_0, atI_1, atI_2, atI_3, e_stockD (k := k + 1) (S := S) (d := .tup (['b', 'c', 'x', 'z'].map fun c => D.tup [.str [c], .tup [.str ['a'], .str ['b'], .str ['c'], .str ['d']]])) rfl, s1, e_isx (k := k + 4)]
  rw [compL_tt fun d hd => by
    have : ∀ d ∈ [D.str ['a'], .str ['a', 'b', 'c', 'd', 'e', 'f', 'g', 'h'], .str ['z', 'z']], gd S 0 d = true ∧ nameB d = true := fm_cons ⟨rfl, by decide +kernel⟩ (fm_cons ⟨rfl, by decide +kernel⟩ (fm_cons ⟨rfl, by decide +kernel⟩ fm_nil))
    obtain ⟨h1, h2⟩ := this d hd
    simp only [w_okb, w_bb, w_var, w_con, w_glo, w_tup, w_lst, w_dct, w_bin, w_not, w_and, w_or, w_cmp, w_chain, w_ix, w_call, w_blt, w_mth, w_comp, w_sl, w_rev, w_neg, w_nil, w_cons, w_and1, w_and2, w_or1, w_or2, w_asg, w_exp, w_ret, w_anm, w_asub, w_orv, w_dcn0, w_dcn1, w_whl, w_callv, w_wipe1, w_wipe2, Ok.ok_iff, subTy, List.getElem?_cons_zero, List.getElem?_cons_succ, List.set_cons_succ, List.set_cons_zero, if_true, Bool.false_eq_true, if_false, Option.map_some, Bool.not_true, Bool.not_false, Bool.true_or, Bool.or_true, Bool.false_or, Bool.or_false, Bool.true_and, Bool.and_true, Bool.false_and, Bool.and_false, eq_self, decide_true, decide_false, beq_self_eq_true, of_some, litD_f, litD_t, bin_add, bin_sub, bin_band, cmp_lti, cmp_lts, cmp_le, cmp_gt, cmp_ge, cmp_none, cmp_nnone, cmp_true, cmp_ntrue, ofB_some, cmp_in, cmp_nin, nonD_non, nonD_s, nonD_t, nonD_i, nonD_l, nonD_r, nonD_b, deref_s, deref_t, deref_l, deref_i, deref_b, deref_n, ok_s, ok_i, ok_b, ok_n, mem_s, flat_s, flat_i, flat_b, flat_n, ix_s, ix_t, ix_l, items_t, items_l, len_s, len_t2, len_t4, len_l, tuple_s, tuple_t, tuple_l, list_s, list_t, list_l, blt_max, blt_min, blt_all, blt_any, ty_s, ty_t, ty_l, ty_i, ty_b, ty_n, rec_join, rec_idx, rec_idxT, tupOnly_t, blt_int1, it_s, it_t, it_l, compI_sq, forI_sq, bind1, rev_s, rev_t, rev_l, blt_inrg, blt_ninrg, rec_upr, bind2, sl_t, sl_s, sl_l, part_i, eq_ss, eq_ii, eq_bb, eq_tn, eq_tc, eq_tc0, eq_t0c, in_nil, in_cons, in_strs, in_sgn, flat_map, all_true, cmp_eq_ii, cmp_eq_ss, cmp_eq_bb, cmp_ne_ii, cmp_ne_ss, bin_shrn, mem_strs, mem_strl, atI_0, atI_1, atI_2, atI_3, e_nameD (k := k + 4) h1, h2, e_isx (k := k + 4)]]
  simp only [w_okb, w_bb, w_var, w_con, w_glo, w_tup, w_lst, w_dct, w_bin, w_not, w_and, w_or, w_cmp, w_chain, w_ix, w_call, w_blt, w_mth, w_comp, w_sl, w_rev, w_neg, w_nil, w_cons, w_and1, w_and2, w_or1, w_or2, w_asg, w_exp, w_ret, w_anm, w_asub, w_orv, w_dcn0, w_dcn1, w_whl, w_callv, w_wipe1, w_wipe2, Ok.ok_iff, subTy, List.getElem?_cons_zero, List.getElem?_cons_succ, List.set_cons_succ, List.set_cons_zero, if_true, Bool.false_eq_true, if_false, Option.map_some, Bool.not_true, Bool.not_false, Bool.true_or, Bool.or_true, Bool.false_or, Bool.or_false, Bool.true_and, Bool.and_true, Bool.false_and, Bool.and_false, eq_self, decide_true, decide_false, beq_self_eq_true, of_some, litD_f, litD_t, bin_add, bin_sub, bin_band, cmp_lti, cmp_lts, cmp_le, cmp_gt, cmp_ge, cmp_none, cmp_nnone, cmp_true, cmp_ntrue, ofB_some, cmp_in, cmp_nin, nonD_non, nonD_s, nonD_t, nonD_i, nonD_l, nonD_r, nonD_b, deref_s, deref_t, deref_l, deref_i, deref_b, deref_n, ok_s, ok_i, ok_b, ok_n, mem_s, flat_s, flat_i, flat_b, flat_n, ix_s, ix_t, ix_l, items_t, items_l, len_s, len_t2, len_t4, len_l, tuple_s, tuple_t, tuple_l, list_s, list_t, list_l, blt_max, blt_min, blt_all, blt_any, ty_s, ty_t, ty_l, ty_i, ty_b, ty_n, rec_join, rec_idx, rec_idxT, tupOnly_t, blt_int1, it_s, it_t, it_l, compI_sq, forI_sq, bind1, rev_s, rev_t, rev_l, blt_inrg, blt_ninrg, rec_upr, bind2, sl_t, sl_s, sl_l, part_i, eq_ss, eq_ii, eq_bb, eq_tn, eq_tc, eq_tc0, eq_t0c, in_nil, in_cons, in_strs, in_sgn, flat_map, all_true, cmp_eq_ii, cmp_eq_ss, cmp_eq_bb, cmp_ne_ii, cmp_ne_ss, bin_shrn, mem_strs, mem_strl, atI_0, atI_1, atI_2, atI_3, blt_all, all_tt2]
  refine i_f (ss_nil (nx (ss_cons ?_)))
  simp only [w_okb, w_bb, w_var, w_con, w_glo, w_tup, w_lst, w_dct, w_bin, w_not, w_and, w_or, w_cmp, w_chain, w_ix, w_call, w_blt, w_mth, w_comp, w_sl, w_rev, w_neg, w_nil, w_cons, w_and1, w_and2, w_or1, w_or2, w_asg, w_exp, w_ret, w_anm, w_asub, w_orv, w_dcn0, w_dcn1, w_whl, w_callv, w_wipe1, w_wipe2, Ok.ok_iff, subTy, List.getElem?_cons_zero, List.getElem?_cons_succ, List.set_cons_succ, List.set_cons_zero, if_true, Bool.false_eq_true, if_false, Option.map_some, Bool.not_true, Bool.not_false, Bool.true_or, Bool.or_true, Bool.false_or, Bool.or_false, Bool.true_and, Bool.and_true, Bool.false_and, Bool.and_false, eq_self, decide_true, decide_false, beq_self_eq_true, of_some, litD_f, litD_t, bin_add, bin_sub, bin_band, cmp_lti, cmp_lts, cmp_le, cmp_gt, cmp_ge, cmp_none, cmp_nnone, cmp_true, cmp_ntrue, ofB_some, cmp_in, cmp_nin, nonD_non, nonD_s, nonD_t, nonD_i, nonD_l, nonD_r, nonD_b, deref_s, deref_t, deref_l, deref_i, deref_b, deref_n, ok_s, ok_i, ok_b, ok_n, mem_s, flat_s, flat_i, flat_b, flat_n, ix_s, ix_t, ix_l, items_t, items_l, len_s, len_t2, len_t4, len_l, tuple_s, tuple_t, tuple_l, list_s, list_t, list_l, blt_max, blt_min, blt_all, blt_any, ty_s, ty_t, ty_l, ty_i, ty_b, ty_n, rec_join, rec_idx, rec_idxT, tupOnly_t, blt_int1, it_s, it_t, it_l, compI_sq, forI_sq, bind1, rev_s, rev_t, rev_l, blt_inrg, blt_ninrg, rec_upr, bind2, sl_t, sl_s, sl_l, part_i, eq_ss, eq_ii, eq_bb, eq_tn, eq_tc, eq_tc0, eq_t0c, in_nil, in_cons, in_strs, in_sgn, flat_map, all_true, cmp_eq_ii, cmp_eq_ss, cmp_eq_bb, cmp_ne_ii, cmp_ne_ss, bin_shrn, mem_strs, mem_strl, atI_0, atI_1, atI_2, atI_3]
  refine nx (ss_cons ?_)
  have g1 : gd (S ++ [O.dct [] []]) 0 (.ref S.length) = true := by
    unfold gd tyD
    simp
  simp only [w_okb, w_bb, w_var, w_con, w_glo, w_tup, w_lst, w_dct, w_bin, w_not, w_and, w_or, w_cmp, w_chain, w_ix, w_call, w_blt, w_mth, w_comp, w_sl, w_rev, w_neg, w_nil, w_cons, w_and1, w_and2, w_or1, w_or2, w_asg, w_exp, w_ret, w_anm, w_asub, w_orv, w_dcn0, w_dcn1, w_whl, w_callv, w_wipe1, w_wipe2, Ok.ok_iff, subTy, List.getElem?_cons_zero, List.getElem?_cons_succ, List.set_cons_succ, List.set_cons_zero, if_true, Bool.false_eq_true, if_false, Option.map_some, Bool.not_true, Bool.not_false, Bool.true_or, Bool.or_true, Bool.false_or, Bool.or_false, Bool.true_and, Bool.and_true, Bool.false_and, Bool.and_false, eq_self, decide_true, decide_false, beq_self_eq_true, of_some, litD_f, litD_t, bin_add, bin_sub, bin_band, cmp_lti, cmp_lts, cmp_le, cmp_gt, cmp_ge, cmp_none, cmp_nnone, cmp_true, cmp_ntrue, ofB_some, cmp_in, cmp_nin, nonD_non, nonD_s, nonD_t, nonD_i, nonD_l, nonD_r, nonD_b, deref_s, deref_t, deref_l, deref_i, deref_b, deref_n, ok_s, ok_i, ok_b, ok_n, mem_s, flat_s, flat_i, flat_b, flat_n, ix_s, ix_t, ix_l, items_t, items_l, len_s, len_t2, len_t4, len_l, tuple_s, tuple_t, tuple_l, list_s, list_t, list_l, blt_max, blt_min, blt_all, blt_any, ty_s, ty_t, ty_l, ty_i, ty_b, ty_n, rec_join, rec_idx, rec_idxT, tupOnly_t, blt_int1, it_s, it_t, it_l, compI_sq, forI_sq, bind1, rev_s, rev_t, rev_l, blt_inrg, blt_ninrg, rec_upr, bind2, sl_t, sl_s, sl_l, part_i, eq_ss, eq_ii, eq_bb, eq_tn, eq_tc, eq_tc0, eq_t0c, in_nil, in_cons, in_strs, in_sgn, flat_map, all_true, cmp_eq_ii, cmp_eq_ss, cmp_eq_bb, cmp_ne_ii, cmp_ne_ss, bin_shrn, mem_strs, mem_strl, atI_0, atI_1, atI_2, atI_3]
  rw [compL_tt fun d hd => by
    have : ∀ d ∈ [D.str [], .str ['a', 'b', 'c', 'd', 'e', 'f', 'g', 'h', 'i'], .str ['A'], .str ['a', '1'], .str ['a', ' ', 'b'], .str [' '], .str ['#'], .str ['0'], .str ['a', '-'], .non, .int 7, .bl true, .tup [.str ['a']], .lst [.str ['a']], .ref S.length, .tup [], .str ['a', '\n']], gd (S ++ [O.dct [] []]) 0 d = true ∧ nameB d = false := fm_cons ⟨rfl, by decide +kernel⟩ (fm_cons ⟨rfl, by decide +kernel⟩ (fm_cons ⟨rfl, by decide +kernel⟩ (fm_cons ⟨rfl, by decide +kernel⟩ (fm_cons ⟨rfl, by decide +kernel⟩ (fm_cons ⟨rfl, by decide +kernel⟩ (fm_cons ⟨rfl, by decide +kernel⟩ (fm_cons ⟨rfl, by decide +kernel⟩ (fm_cons ⟨rfl, by decide +kernel⟩ (fm_cons ⟨rfl, rfl⟩ (fm_cons ⟨rfl, rfl⟩ (fm_cons ⟨rfl, rfl⟩ (fm_cons ⟨rfl, rfl⟩ (fm_cons ⟨rfl, rfl⟩ (fm_cons ⟨g1, rfl⟩ (fm_cons ⟨rfl, rfl⟩ (fm_cons ⟨rfl, by decide +kernel⟩ (fm_nil)))))))))))))))))
    obtain ⟨h1, h2⟩ := this d hd
    simp only [w_okb, w_bb, w_var, w_con, w_glo, w_tup, w_lst, w_dct, w_bin, w_not, w_and, w_or, w_cmp, w_chain, w_ix, w_call, w_blt, w_mth, w_comp, w_sl, w_rev, w_neg, w_nil, w_cons, w_and1, w_and2, w_or1, w_or2, w_asg, w_exp, w_ret, w_anm, w_asub, w_orv, w_dcn0, w_dcn1, w_whl, w_callv, w_wipe1, w_wipe2, Ok.ok_iff, subTy, List.getElem?_cons_zero, List.getElem?_cons_succ, List.set_cons_succ, List.set_cons_zero, if_true, Bool.false_eq_true, if_false, Option.map_some, Bool.not_true, Bool.not_false, Bool.true_or, Bool.or_true, Bool.false_or, Bool.or_false, Bool.true_and, Bool.and_true, Bool.false_and, Bool.and_false, eq_self, decide_true, decide_false, beq_self_eq_true, of_some, litD_f, litD_t, bin_add, bin_sub, bin_band, cmp_lti, cmp_lts, cmp_le, cmp_gt, cmp_ge, cmp_none, cmp_nnone, cmp_true, cmp_ntrue, ofB_some, cmp_in, cmp_nin, nonD_non, nonD_s, nonD_t, nonD_i, nonD_l, nonD_r, nonD_b, deref_s, deref_t, deref_l, deref_i, deref_b, deref_n, ok_s, ok_i, ok_b, ok_n, mem_s, flat_s, flat_i, flat_b, flat_n, ix_s, ix_t, ix_l, items_t, items_l, len_s, len_t2, len_t4, len_l, tuple_s, tuple_t, tuple_l, list_s, list_t, list_l, blt_max, blt_min, blt_all, blt_any, ty_s, ty_t, ty_l, ty_i, ty_b, ty_n, rec_join, rec_idx, rec_idxT, tupOnly_t, blt_int1, it_s, it_t, it_l, compI_sq, forI_sq, bind1, rev_s, rev_t, rev_l, blt_inrg, blt_ninrg, rec_upr, bind2, sl_t, sl_s, sl_l, part_i, eq_ss, eq_ii, eq_bb, eq_tn, eq_tc, eq_tc0, eq_t0c, in_nil, in_cons, in_strs, in_sgn, flat_map, all_true, cmp_eq_ii, cmp_eq_ss, cmp_eq_bb, cmp_ne_ii, cmp_ne_ss, bin_shrn, mem_strs, mem_strl, atI_0, atI_1, atI_2, atI_3, e_nameD (k := k + 4) h1, h2, e_isx (k := k + 4)]]
  simp only [w_okb, w_bb, w_var, w_con, w_glo, w_tup, w_lst, w_dct, w_bin, w_not, w_and, w_or, w_cmp, w_chain, w_ix, w_call, w_blt, w_mth, w_comp, w_sl, w_rev, w_neg, w_nil, w_cons, w_and1, w_and2, w_or1, w_or2, w_asg, w_exp, w_ret, w_anm, w_asub, w_orv, w_dcn0, w_dcn1, w_whl, w_callv, w_wipe1, w_wipe2, Ok.ok_iff, subTy, List.getElem?_cons_zero, List.getElem?_cons_succ, List.set_cons_succ, List.set_cons_zero, if_true, Bool.false_eq_true, if_false, Option.map_some, Bool.not_true, Bool.not_false, Bool.true_or, Bool.or_true, Bool.false_or, Bool.or_false, Bool.true_and, Bool.and_true, Bool.false_and, Bool.and_false, eq_self, decide_true, decide_false, beq_self_eq_true, of_some, litD_f, litD_t, bin_add, bin_sub, bin_band, cmp_lti, cmp_lts, cmp_le, cmp_gt, cmp_ge, cmp_none, cmp_nnone, cmp_true, cmp_ntrue, ofB_some, cmp_in, cmp_nin, nonD_non, nonD_s, nonD_t, nonD_i, nonD_l, nonD_r, nonD_b, deref_s, deref_t, deref_l, deref_i, deref_b, deref_n, ok_s, ok_i, ok_b, ok_n, mem_s, flat_s, flat_i, flat_b, flat_n, ix_s, ix_t, ix_l, items_t, items_l, len_s, len_t2, len_t4, len_l, tuple_s, tuple_t, tuple_l, list_s, list_t, list_l, blt_max, blt_min, blt_all, blt_any, ty_s, ty_t, ty_l, ty_i, ty_b, ty_n, rec_join, rec_idx, rec_idxT, tupOnly_t, blt_int1, it_s, it_t, it_l, compI_sq, forI_sq, bind1, rev_s, rev_t, rev_l, blt_inrg, blt_ninrg, rec_upr, bind2, sl_t, sl_s, sl_l, part_i, eq_ss, eq_ii, eq_bb, eq_tn, eq_tc, eq_tc0, eq_t0c, in_nil, in_cons, in_strs, in_sgn, flat_map, all_true, cmp_eq_ii, cmp_eq_ss, cmp_eq_bb, cmp_ne_ii, cmp_ne_ss, bin_shrn, mem_strs, mem_strl, atI_0, atI_1, atI_2, atI_3, blt_all, all_tt2]
  exact nrt (rt rfl)
theorem law_true : ∀ ns : List Int, ns.length ≤ 63 → (∀ z ∈ ns, Builtin.Int.intBits z ≤ 1048576) → ∃ S', callF pg depth "law" [.lst (ns.map .int)] [] = .ok (.bl true, S') := by
  intro ns hl hb
  have hz : ∀ z ∈ ns, z.natAbs.log2 ≤ 1048576 := fun z h => bits_log (hb z h)
  suffices h : Ok (callF pg (4 + 6) "law" [.lst (ns.map .int)] []) fun p => p.1 = .bl true by
    obtain ⟨⟨v, S'⟩, e, q⟩ := h
    have q : v = .bl true := q
    subst q
    exact ⟨S', e⟩
  have hf := fn_c_law
  rw [c_law_pt] at hf
  refine call_ok (ρ := [some (.lst (ns.map .int)), none, none, none, none, none, none, none, none, none, none, none]) hf rfl rfl (ss_cons (fo_ok ?_))
  obtain ⟨m, hm, hm2⟩ := max_min (ns := ns) (q := 12) (by decide)
  have hm : (if (if (12 : Int) < (ns.length : Int) then (12 : Int) else (ns.length : Int)) > 1 then (if (12 : Int) < (ns.length : Int) then (12 : Int) else (ns.length : Int)) else 1) = (m : Int) := hm
  simp only [w_okb, w_bb, w_var, w_con, w_glo, w_tup, w_lst, w_dct, w_bin, w_not, w_and, w_or, w_cmp, w_chain, w_ix, w_call, w_blt, w_mth, w_comp, w_sl, w_rev, w_neg, w_nil, w_cons, w_and1, w_and2, w_or1, w_or2, w_asg, w_exp, w_ret, w_anm, w_asub, w_orv, w_dcn0, w_dcn1, w_whl, w_callv, w_wipe1, w_wipe2, Ok.ok_iff, subTy, List.getElem?_cons_zero, List.getElem?_cons_succ, List.set_cons_succ, List.set_cons_zero, if_true, Bool.false_eq_true, if_false, Option.map_some, Bool.not_true, Bool.not_false, Bool.true_or, Bool.or_true, Bool.false_or, Bool.or_false, Bool.true_and, Bool.and_true, Bool.false_and, Bool.and_false, eq_self, decide_true, decide_false, beq_self_eq_true, of_some, litD_f, litD_t, bin_add, bin_sub, bin_band, cmp_lti, cmp_lts, cmp_le, cmp_gt, cmp_ge, cmp_none, cmp_nnone, cmp_true, cmp_ntrue, ofB_some, cmp_in, cmp_nin, nonD_non, nonD_s, nonD_t, nonD_i, nonD_l, nonD_r, nonD_b, deref_s, deref_t, deref_l, deref_i, deref_b, deref_n, ok_s, ok_i, ok_b, ok_n, mem_s, flat_s, flat_i, flat_b, flat_n, ix_s, ix_t, ix_l, items_t, items_l, len_s, len_t2, len_t4, len_l, tuple_s, tuple_t, tuple_l, list_s, list_t, list_l, blt_max, blt_min, blt_all, blt_any, ty_s, ty_t, ty_l, ty_i, ty_b, ty_n, rec_join, rec_idx, rec_idxT, tupOnly_t, blt_int1, it_s, it_t, it_l, compI_sq, forI_sq, bind1, rev_s, rev_t, rev_l, blt_inrg, blt_ninrg, rec_upr, bind2, sl_t, sl_s, sl_l, part_i, eq_ss, eq_ii, eq_bb, eq_tn, eq_tc, eq_tc0, eq_t0c, in_nil, in_cons, in_strs, in_sgn, flat_map, all_true, cmp_eq_ii, cmp_eq_ss, cmp_eq_bb, cmp_ne_ii, cmp_ne_ss, bin_shrn, mem_strs, mem_strl, atI_0, atI_1, atI_2, atI_3, List.length_map, hm]
  refine fo_ (it_r3 (by omega)) ((forL_inv (fun pre ρ S' => ∃ x1 x2 x3 x4 x5 x6 x7 x8 x9 x10 x11, ρ = [some (.lst (ns.map .int)), x1, x2, x3, x4, x5, x6, x7, x8, x9, x10, x11]) ⟨_, _, _, _, _, _, _, _, _, _, _, rfl⟩ ?_).mono ?_)
  · rintro pre d post _ S' e ⟨x1, x2, x3, x4, x5, x6, x7, x8, x9, x10, x11, rfl⟩
    have hd : d ∈ rangeC 0 2 (((m : Int) - 0 + 2 - 1) / 2).toNat := by rw [e]; simp
    obtain ⟨i, hi, rfl⟩ := mem_rangeC2 hd
    have ek : (0 : Int) + (i : Int) * 2 = ((2 * i : Nat) : Int) := by omega
    simp only [w_okb, w_bb, w_var, w_con, w_glo, w_tup, w_lst, w_dct, w_bin, w_not, w_and, w_or, w_cmp, w_chain, w_ix, w_call, w_blt, w_mth, w_comp, w_sl, w_rev, w_neg, w_nil, w_cons, w_and1, w_and2, w_or1, w_or2, w_asg, w_exp, w_ret, w_anm, w_asub, w_orv, w_dcn0, w_dcn1, w_whl, w_callv, w_wipe1, w_wipe2, Ok.ok_iff, subTy, List.getElem?_cons_zero, List.getElem?_cons_succ, List.set_cons_succ, List.set_cons_zero, if_true, Bool.false_eq_true, if_false, Option.map_some, Bool.not_true, Bool.not_false, Bool.true_or, Bool.or_true, Bool.false_or, Bool.or_false, Bool.true_and, Bool.and_true, Bool.false_and, Bool.and_false, eq_self, decide_true, decide_false, beq_self_eq_true, of_some, litD_f, litD_t, bin_add, bin_sub, bin_band, cmp_lti, cmp_lts, cmp_le, cmp_gt, cmp_ge, cmp_none, cmp_nnone, cmp_true, cmp_ntrue, ofB_some, cmp_in, cmp_nin, nonD_non, nonD_s, nonD_t, nonD_i, nonD_l, nonD_r, nonD_b, deref_s, deref_t, deref_l, deref_i, deref_b, deref_n, ok_s, ok_i, ok_b, ok_n, mem_s, flat_s, flat_i, flat_b, flat_n, ix_s, ix_t, ix_l, items_t, items_l, len_s, len_t2, len_t4, len_l, tuple_s, tuple_t, tuple_l, list_s, list_t, list_l, blt_max, blt_min, blt_all, blt_any, ty_s, ty_t, ty_l, ty_i, ty_b, ty_n, rec_join, rec_idx, rec_idxT, tupOnly_t, blt_int1, it_s, it_t, it_l, compI_sq, forI_sq, bind1, rev_s, rev_t, rev_l, blt_inrg, blt_ninrg, rec_upr, bind2, sl_t, sl_s, sl_l, part_i, eq_ss, eq_ii, eq_bb, eq_tn, eq_tc, eq_tc0, eq_t0c, in_nil, in_cons, in_strs, in_sgn, flat_map, all_true, cmp_eq_ii, cmp_eq_ss, cmp_eq_bb, cmp_ne_ii, cmp_ne_ss, bin_shrn, mem_strs, mem_strl, atI_0, atI_1, atI_2, atI_3, ek]
    exact law0 (k := 4) hz (by omega)
  · rintro ⟨_, _, c⟩ ⟨rfl, x1, x2, x3, x4, x5, x6, x7, x8, x9, x10, x11, rfl⟩
    exact nx (lawT_ok (k := 4))
end Z

namespace Z
open PySem L2 PySem.Spec PyProof.Rows
theorem facts {K : PySem.W.Frag} {h : Heap} {mg : Str → Option Value} {f1 f2 f3 f4 f5 f6 f7 f8 f9 f10 f11 f12 f13 f14 f15 : Addr} {od1 an1 od2 an2 od3 an3 od4 an4 od5 an5 od6 an6 od7 an7 od8 an8 od9 an9 od10 an10 od11 an11 od12 an12 od13 an13 od14 an14 od15 an15 : Option Addr} {sl1 sl2 sl3 sl4 sl5 sl6 sl7 sl8 sl9 sl10 sl11 sl12 sl13 sl14 sl15 : Array (Option Value)} {oc1 kV1 dc1 pm1 cd1 ct1 oc2 kV2 dc2 pm2 cd2 ct2 oc3 kV3 dc3 pm3 cd3 ct3 oc4 kV4 dc4 pm4 cd4 ct4 oc5 kV5 dc5 pm5 cd5 ct5 oc6 kV6 dc6 pm6 cd6 ct6 oc7 kV7 dc7 pm7 cd7 ct7 oc8 kV8 dc8 pm8 cd8 ct8 oc9 kV9 dc9 pm9 cd9 ct9 oc10 kV10 dc10 pm10 cd10 ct10 oc11 kV11 dc11 pm11 cd11 ct11 oc12 kV12 dc12 pm12 cd12 ct12 oc13 kV13 dc13 pm13 cd13 ct13 oc14 kV14 dc14 pm14 cd14 ct14 oc15 kV15 dc15 pm15 cd15 ct15 : Value} {tg1 : Tok} {tg2 : Tok} {tg3 : Tok} {tg4 : Tok} (X : K.In h) (G : h.Ns mainGlobals mg)
    (a1 : PySem.W.nsIn K mainGlobals "is_name" = some (some (.ref f1))) (l1 : K.lookup f1 = some ⟨oc1, od1, .func (PySem.W.fnOf "is_name" "is_name" (defArgs (top 5)) (defBody (top 5)) (defScope (top 5)) .none kV1 dc1 pm1 an1 cd1 ct1), sl1⟩) (c1 : PySem.W.codeIn K cd1 "is_name" = true) (k1 : PySem.W.keepIn K (.ref f1) = true)
    (a2 : PySem.W.nsIn K mainGlobals "is_rising" = some (some (.ref f2))) (l2 : K.lookup f2 = some ⟨oc2, od2, .func (PySem.W.fnOf "is_rising" "is_rising" (defArgs (top 6)) (defBody (top 6)) (defScope (top 6)) .none kV2 dc2 pm2 an2 cd2 ct2), sl2⟩) (c2 : PySem.W.codeIn K cd2 "is_rising" = true) (k2 : PySem.W.keepIn K (.ref f2) = true)
    (a3 : PySem.W.nsIn K mainGlobals "are_marks" = some (some (.ref f3))) (l3 : K.lookup f3 = some ⟨oc3, od3, .func (PySem.W.fnOf "are_marks" "are_marks" (defArgs (top 7)) (defBody (top 7)) (defScope (top 7)) .none kV3 dc3 pm3 an3 cd3 ct3), sl3⟩) (c3 : PySem.W.codeIn K cd3 "are_marks" = true) (k3 : PySem.W.keepIn K (.ref f3) = true)
    (a4 : PySem.W.nsIn K mainGlobals "is_marked" = some (some (.ref f4))) (l4 : K.lookup f4 = some ⟨oc4, od4, .func (PySem.W.fnOf "is_marked" "is_marked" (defArgs (top 8)) (defBody (top 8)) (defScope (top 8)) .none kV4 dc4 pm4 an4 cd4 ct4), sl4⟩) (c4 : PySem.W.codeIn K cd4 "is_marked" = true) (k4 : PySem.W.keepIn K (.ref f4) = true)
    (a5 : PySem.W.nsIn K mainGlobals "is_stock" = some (some (.ref f5))) (l5 : K.lookup f5 = some ⟨oc5, od5, .func (PySem.W.fnOf "is_stock" "is_stock" (defArgs (top 9)) (defBody (top 9)) (defScope (top 9)) .none kV5 dc5 pm5 an5 cd5 ct5), sl5⟩) (c5 : PySem.W.codeIn K cd5 "is_stock" = true) (k5 : PySem.W.keepIn K (.ref f5) = true)
    (a6 : PySem.W.nsIn K mainGlobals "sounds_of" = some (some (.ref f6))) (l6 : K.lookup f6 = some ⟨oc6, od6, .func (PySem.W.fnOf "sounds_of" "sounds_of" (defArgs (top 10)) (defBody (top 10)) (defScope (top 10)) .none kV6 dc6 pm6 an6 cd6 ct6), sl6⟩) (c6 : PySem.W.codeIn K cd6 "sounds_of" = true) (k6 : PySem.W.keepIn K (.ref f6) = true)
    (a7 : PySem.W.nsIn K mainGlobals "_law_mixed" = some (some (.ref f7))) (l7 : K.lookup f7 = some ⟨oc7, od7, .func (PySem.W.fnOf "_law_mixed" "_law_mixed" (defArgs (top 12)) (defBody (top 12)) (defScope (top 12)) .none kV7 dc7 pm7 an7 cd7 ct7), sl7⟩) (c7 : PySem.W.codeIn K cd7 "_law_mixed" = true) (k7 : PySem.W.keepIn K (.ref f7) = true)
    (a8 : PySem.W.nsIn K mainGlobals "_law_pack" = some (some (.ref f8))) (l8 : K.lookup f8 = some ⟨oc8, od8, .func (PySem.W.fnOf "_law_pack" "_law_pack" (defArgs (top 13)) (defBody (top 13)) (defScope (top 13)) .none kV8 dc8 pm8 an8 cd8 ct8), sl8⟩) (c8 : PySem.W.codeIn K cd8 "_law_pack" = true) (k8 : PySem.W.keepIn K (.ref f8) = true)
    (a9 : PySem.W.nsIn K mainGlobals "_law_take" = some (some (.ref f9))) (l9 : K.lookup f9 = some ⟨oc9, od9, .func (PySem.W.fnOf "_law_take" "_law_take" (defArgs (top 14)) (defBody (top 14)) (defScope (top 14)) .none kV9 dc9 pm9 an9 cd9 ct9), sl9⟩) (c9 : PySem.W.codeIn K cd9 "_law_take" = true) (k9 : PySem.W.keepIn K (.ref f9) = true)
    (a10 : PySem.W.nsIn K mainGlobals "_law_drawn_sounds" = some (some (.ref f10))) (l10 : K.lookup f10 = some ⟨oc10, od10, .func (PySem.W.fnOf "_law_drawn_sounds" "_law_drawn_sounds" (defArgs (top 15)) (defBody (top 15)) (defScope (top 15)) .none kV10 dc10 pm10 an10 cd10 ct10), sl10⟩) (c10 : PySem.W.codeIn K cd10 "_law_drawn_sounds" = true) (k10 : PySem.W.keepIn K (.ref f10) = true)
    (a11 : PySem.W.nsIn K mainGlobals "_law_marks" = some (some (.ref f11))) (l11 : K.lookup f11 = some ⟨oc11, od11, .func (PySem.W.fnOf "_law_marks" "_law_marks" (defArgs (top 16)) (defBody (top 16)) (defScope (top 16)) .none kV11 dc11 pm11 an11 cd11 ct11), sl11⟩) (c11 : PySem.W.codeIn K cd11 "_law_marks" = true) (k11 : PySem.W.keepIn K (.ref f11) = true)
    (a12 : PySem.W.nsIn K mainGlobals "_law_stock" = some (some (.ref f12))) (l12 : K.lookup f12 = some ⟨oc12, od12, .func (PySem.W.fnOf "_law_stock" "_law_stock" (defArgs (top 17)) (defBody (top 17)) (defScope (top 17)) .none kV12 dc12 pm12 an12 cd12 ct12), sl12⟩) (c12 : PySem.W.codeIn K cd12 "_law_stock" = true) (k12 : PySem.W.keepIn K (.ref f12) = true)
    (a13 : PySem.W.nsIn K mainGlobals "_law_is" = some (some (.ref f13))) (l13 : K.lookup f13 = some ⟨oc13, od13, .func (PySem.W.fnOf "_law_is" "_law_is" (defArgs (top 18)) (defBody (top 18)) (defScope (top 18)) .none kV13 dc13 pm13 an13 cd13 ct13), sl13⟩) (c13 : PySem.W.codeIn K cd13 "_law_is" = true) (k13 : PySem.W.keepIn K (.ref f13) = true)
    (a14 : PySem.W.nsIn K mainGlobals "_law_no_stocks" = some (some (.ref f14))) (l14 : K.lookup f14 = some ⟨oc14, od14, .func (PySem.W.fnOf "_law_no_stocks" "_law_no_stocks" (defArgs (top 19)) (defBody (top 19)) (defScope (top 19)) .none kV14 dc14 pm14 an14 cd14 ct14), sl14⟩) (c14 : PySem.W.codeIn K cd14 "_law_no_stocks" = true) (k14 : PySem.W.keepIn K (.ref f14) = true)
    (a15 : PySem.W.nsIn K mainGlobals "law" = some (some (.ref f15))) (l15 : K.lookup f15 = some ⟨oc15, od15, .func (PySem.W.fnOf "law" "law" (defArgs (top 20)) (defBody (top 20)) (defScope (top 20)) .none kV15 dc15 pm15 an15 cd15 ct15), sl15⟩) (c15 : PySem.W.codeIn K cd15 "law" = true) (k15 : PySem.W.keepIn K (.ref f15) = true)
    (z1 : PySem.W.nsIn K mainGlobals "all" = some none)
    (z2 : PySem.W.nsIn K mainGlobals "bool" = some none)
    (z3 : PySem.W.nsIn K mainGlobals "divmod" = some none)
    (z4 : PySem.W.nsIn K mainGlobals "isinstance" = some none)
    (z5 : PySem.W.nsIn K mainGlobals "len" = some none)
    (z6 : PySem.W.nsIn K mainGlobals "list" = some none)
    (z7 : PySem.W.nsIn K mainGlobals "max" = some none)
    (z8 : PySem.W.nsIn K mainGlobals "min" = some none)
    (z9 : PySem.W.nsIn K mainGlobals "range" = some none)
    (z10 : PySem.W.nsIn K mainGlobals "set" = some none)
    (z11 : PySem.W.nsIn K mainGlobals "sorted" = some none)
    (z12 : PySem.W.nsIn K mainGlobals "str" = some none)
    (z13 : PySem.W.nsIn K mainGlobals "tuple" = some none)
    (g1 : PySem.W.nsIn K mainGlobals "SMALL" = some (some (.str "abcdefghijklmnopqrstuvwxyz" tg1)))
    (g2 : PySem.W.nsIn K mainGlobals "MOST_LETTERS" = some (some (.int 8 tg2)))
    (g3 : PySem.W.nsIn K mainGlobals "MOST_SOUNDS" = some (some (.int 4 tg3)))
    (g4 : PySem.W.nsIn K mainGlobals "MOST_MARKS" = some (some (.int 4 tg4))) : Facts pg tab K mg "law" "_law_script" := by
  refine ⟨⟨fun x hx => ?_, fun x hx => ?_, fun x f h => PySem.W.mg_of X G h, fun x d h => (show x ∈ codes.map (·.1) from lookup_in h)⟩, fun x hx => ?_, df_c_law, f15, _, ⟨fun_mk (st := top 20) l15 c15 k15, PySem.W.mg_of X G a15, fun us hl => match us, hl with | [_], _ => rfl, fn_c_law, ck_c_law⟩, rfl⟩
  · simp only [tab, List.mem_cons, List.not_mem_nil, or_false] at hx
    rcases hx with rfl | rfl | rfl | rfl | rfl | rfl | rfl | rfl | rfl | rfl | rfl | rfl | rfl
    · exact PySem.W.mg_none_of X G z1
    · exact PySem.W.mg_none_of X G z2
    · exact PySem.W.mg_none_of X G z3
    · exact PySem.W.mg_none_of X G z4
    · exact PySem.W.mg_none_of X G z5
    · exact PySem.W.mg_none_of X G z6
    · exact PySem.W.mg_none_of X G z7
    · exact PySem.W.mg_none_of X G z8
    · exact PySem.W.mg_none_of X G z9
    · exact PySem.W.mg_none_of X G z10
    · exact PySem.W.mg_none_of X G z11
    · exact PySem.W.mg_none_of X G z12
    · exact PySem.W.mg_none_of X G z13
  · simp only [tab, List.mem_cons, List.not_mem_nil, or_false] at hx
    rcases hx with rfl | rfl | rfl | rfl
    · exact ⟨.str (toS ['a', 'b', 'c', 'd', 'e', 'f', 'g', 'h', 'i', 'j', 'k', 'l', 'm', 'n', 'o', 'p', 'q', 'r', 's', 't', 'u', 'v', 'w', 'x', 'y', 'z']), _, .str ['a', 'b', 'c', 'd', 'e', 'f', 'g', 'h', 'i', 'j', 'k', 'l', 'm', 'n', 'o', 'p', 'q', 'r', 's', 't', 'u', 'v', 'w', 'x', 'y', 'z'], by kernel_rfl, PySem.W.mg_of X G g1, ⟨tg1, by kernel_rfl⟩, fun _ _ _ _ _ => by simp only [Rep]; exact ⟨trivial, by decide +kernel⟩⟩
    · exact ⟨.int 8, _, .int 8, by kernel_rfl, PySem.W.mg_of X G g2, ⟨_, rfl⟩, fun _ _ _ _ _ => by simp only [Rep]⟩
    · exact ⟨.int 4, _, .int 4, by kernel_rfl, PySem.W.mg_of X G g3, ⟨_, rfl⟩, fun _ _ _ _ _ => by simp only [Rep]⟩
    · exact ⟨.int 4, _, .int 4, by kernel_rfl, PySem.W.mg_of X G g4, ⟨_, rfl⟩, fun _ _ _ _ _ => by simp only [Rep]⟩
  · simp only [tab, List.mem_cons, List.not_mem_nil, or_false] at hx
    rcases hx with rfl | rfl | rfl | rfl | rfl | rfl | rfl | rfl | rfl | rfl | rfl | rfl | rfl | rfl | rfl
    · exact ⟨df_c_is_name, f1, _, fun_mk (st := top 5) l1 c1 k1, PySem.W.mg_of X G a1, fun us hl => match us, hl with | [_], _ => rfl, fn_c_is_name, ck_c_is_name⟩
    · exact ⟨df_c_is_rising, f2, _, fun_mk (st := top 6) l2 c2 k2, PySem.W.mg_of X G a2, fun us hl => match us, hl with | [_], _ => rfl, fn_c_is_rising, ck_c_is_rising⟩
    · exact ⟨df_c_are_marks, f3, _, fun_mk (st := top 7) l3 c3 k3, PySem.W.mg_of X G a3, fun us hl => match us, hl with | [_], _ => rfl, fn_c_are_marks, ck_c_are_marks⟩
    · exact ⟨df_c_is_marked, f4, _, fun_mk (st := top 8) l4 c4 k4, PySem.W.mg_of X G a4, fun us hl => match us, hl with | [_], _ => rfl, fn_c_is_marked, ck_c_is_marked⟩
    · exact ⟨df_c_is_stock, f5, _, fun_mk (st := top 9) l5 c5 k5, PySem.W.mg_of X G a5, fun us hl => match us, hl with | [_], _ => rfl, fn_c_is_stock, ck_c_is_stock⟩
    · exact ⟨df_c_sounds_of, f6, _, fun_mk (st := top 10) l6 c6 k6, PySem.W.mg_of X G a6, fun us hl => match us, hl with | [_], _ => rfl, fn_c_sounds_of, ck_c_sounds_of⟩
    · exact ⟨df_c_law_mixed, f7, _, fun_mk (st := top 12) l7 c7 k7, PySem.W.mg_of X G a7, fun us hl => match us, hl with | [_], _ => rfl, fn_c_law_mixed, ck_c_law_mixed⟩
    · exact ⟨df_c_law_pack, f8, _, fun_mk (st := top 13) l8 c8 k8, PySem.W.mg_of X G a8, fun us hl => match us, hl with | [_, _], _ => rfl, fn_c_law_pack, ck_c_law_pack⟩
    · exact ⟨df_c_law_take, f9, _, fun_mk (st := top 14) l9 c9 k9, PySem.W.mg_of X G a9, fun us hl => match us, hl with | [_, _], _ => rfl, fn_c_law_take, ck_c_law_take⟩
    · exact ⟨df_c_law_drawn_sounds, f10, _, fun_mk (st := top 15) l10 c10 k10, PySem.W.mg_of X G a10, fun us hl => match us, hl with | [_], _ => rfl, fn_c_law_drawn_sounds, ck_c_law_drawn_sounds⟩
    · exact ⟨df_c_law_marks, f11, _, fun_mk (st := top 16) l11 c11 k11, PySem.W.mg_of X G a11, fun us hl => match us, hl with | [_], _ => rfl, fn_c_law_marks, ck_c_law_marks⟩
    · exact ⟨df_c_law_stock, f12, _, fun_mk (st := top 17) l12 c12 k12, PySem.W.mg_of X G a12, fun us hl => match us, hl with | [_], _ => rfl, fn_c_law_stock, ck_c_law_stock⟩
    · exact ⟨df_c_law_is, f13, _, fun_mk (st := top 18) l13 c13 k13, PySem.W.mg_of X G a13, fun us hl => match us, hl with | [_, _], _ => rfl, fn_c_law_is, ck_c_law_is⟩
    · exact ⟨df_c_law_no_stocks, f14, _, fun_mk (st := top 19) l14 c14 k14, PySem.W.mg_of X G a14, fun us hl => match us, hl with | [_], _ => rfl, fn_c_law_no_stocks, ck_c_law_no_stocks⟩
    · exact ⟨df_c_law, f15, _, fun_mk (st := top 20) l15 c15 k15, PySem.W.mg_of X G a15, fun us hl => match us, hl with | [_], _ => rfl, fn_c_law, ck_c_law⟩
end Z

open PySem PySem.W PyProof.Rows in
set_option maxRecDepth 100000 in
set_option maxHeartbeats 0 in
theorem PySem.Challenge.cw_soundrules_k01_stocks_of_any_things_holds : PySem.Challenge.rw_soundrules_k01_stocks_of_any_things.Holds := by
  w_on; o_law; k_head; (case hw => w_witness2)
  k_fill
  refine Z.law_walk (l := PySem.Challenge.rw_soundrules_k01_stocks_of_any_things) Z.pg Z.tab Z.depth (x := "_law_script") rfl rfl (by decide) (by decide +kernel) (fun w h Y => PySem.W.kIn_of Y) ?F Z.law_true
  case F =>
    intro w mg h KX G
    refine' Z.facts KX G ?a1 ?l1 ?c1 ?k1 ?a2 ?l2 ?c2 ?k2 ?a3 ?l3 ?c3 ?k3 ?a4 ?l4 ?c4 ?k4 ?a5 ?l5 ?c5 ?k5 ?a6 ?l6 ?c6 ?k6 ?a7 ?l7 ?c7 ?k7 ?a8 ?l8 ?c8 ?k8 ?a9 ?l9 ?c9 ?k9 ?a10 ?l10 ?c10 ?k10 ?a11 ?l11 ?c11 ?k11 ?a12 ?l12 ?c12 ?k12 ?a13 ?l13 ?c13 ?k13 ?a14 ?l14 ?c14 ?k14 ?a15 ?l15 ?c15 ?k15 ?z1 ?z2 ?z3 ?z4 ?z5 ?z6 ?z7 ?z8 ?z9 ?z10 ?z11 ?z12 ?z13 ?g1 ?g2 ?g3 ?g4
    (case a1 => k_is)
    (case l1 => k_is)
    (case c1 => k_is)
    (case k1 => k_is)
    (case a2 => k_is)
    (case l2 => k_is)
    (case c2 => k_is)
    (case k2 => k_is)
    (case a3 => k_is)
    (case l3 => k_is)
    (case c3 => k_is)
    (case k3 => k_is)
    (case a4 => k_is)
    (case l4 => k_is)
    (case c4 => k_is)
    (case k4 => k_is)
    (case a5 => k_is)
    (case l5 => k_is)
    (case c5 => k_is)
    (case k5 => k_is)
    (case a6 => k_is)
    (case l6 => k_is)
    (case c6 => k_is)
    (case k6 => k_is)
    (case a7 => k_is)
    (case l7 => k_is)
    (case c7 => k_is)
    (case k7 => k_is)
    (case a8 => k_is)
    (case l8 => k_is)
    (case c8 => k_is)
    (case k8 => k_is)
    (case a9 => k_is)
    (case l9 => k_is)
    (case c9 => k_is)
    (case k9 => k_is)
    (case a10 => k_is)
    (case l10 => k_is)
    (case c10 => k_is)
    (case k10 => k_is)
    (case a11 => k_is)
    (case l11 => k_is)
    (case c11 => k_is)
    (case k11 => k_is)
    (case a12 => k_is)
    (case l12 => k_is)
    (case c12 => k_is)
    (case k12 => k_is)
    (case a13 => k_is)
    (case l13 => k_is)
    (case c13 => k_is)
    (case k13 => k_is)
    (case a14 => k_is)
    (case l14 => k_is)
    (case c14 => k_is)
    (case k14 => k_is)
    (case a15 => k_is)
    (case l15 => k_is)
    (case c15 => k_is)
    (case k15 => k_is)
    (case z1 => k_is)
    (case z2 => k_is)
    (case z3 => k_is)
    (case z4 => k_is)
    (case z5 => k_is)
    (case z6 => k_is)
    (case z7 => k_is)
    (case z8 => k_is)
    (case z9 => k_is)
    (case z10 => k_is)
    (case z11 => k_is)
    (case z12 => k_is)
    (case z13 => k_is)
    (case g1 => k_is)
    (case g2 => k_is)
    (case g3 => k_is)
    (case g4 => k_is)
