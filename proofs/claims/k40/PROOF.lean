import PyProof.Rows.All
import Wide.All
import OpenK.AllK
import Wide.FinOn
import HandS.ForMost
import HandS.Wide
import HandS.Conv
import HandS.IsInst
import KE.KeyNested
import PyProof.Rows.TupTab
import KE.SortData
import KE.DataCmp
import KE.KDictKeyed
import HandS.More
import HandS.ExcOwn
import HandS.TryOnly
import HandS.ExcIs
import HandS.TupAny
import PyProof.StrOps2
import HandS.TupMul
import HandS.Style
import HandS.TupLen
import KE.KDictCopyH
import KE.KDictSum
import PyProof.Transfer
import KE.KDictPairs
import HandS.Replace
import HandS.Strs
import HandS.Sort
import KE.KRevSl
import HandS.Text
import KE.KStrOpen
import HandS.Set
import HandS.SetFor
import HandS.TupSets
import HandS.SetKeys
import PyProof.Rows.SortShellAny
import PyProof.ZipIter
import HandS.Zip
import PyProof.EnumMake
import KE.KDictDisplayH
import PyProof.DictTable
import HandS.CallLocal
import HandS.ExcValue
import HandS.Flow
import HandS.Codes
import HandS.EndBits
import PySem.Challenge.RW_soundrules_k40_whole_plain_rules
set_option Elab.async false
set_option linter.all false
set_option maxRecDepth 100000
set_option maxHeartbeats 4000000
/-! Core: the data, the little language, what it makes. -/
namespace Z
open PySem L2

/-- data: a text is its signs; lst is a list that nobody changes; ref n is the n-th changing object of the store -/
inductive D where
  | non
  | bl (b : Bool)
  | int (i : Int)
  | str (s : List Char)
  | tup (ds : List D)
  | lst (ds : List D)
  | ref (n : Nat)
  | fn (x : Str)
  | exc (c : Str)
instance : Inhabited D := ⟨.non⟩

/-- a changing object -/
inductive O where
  | lst (ds : List D)
  | dct (ks vs : List D)
  | dcn (ks vs : List D)
  | ins (c : Str) (fs : List (Str × D))
abbrev Store := List O
abbrev Env := List (Option D)

/-- an answer; an error of a class with a field; nothing said -/
inductive R (A : Type) where
  | ok (a : A)
  | exc (c : Str) (f : Option D) (S : Store)
  | bad
def R.bind {A B : Type} : R A → (A → R B) → R B
  | .ok a, f => f a
  | .exc c x S, _ => .exc c x S
  | .bad, _ => .bad
@[simp] theorem R.ok_bind {A B : Type} (a : A) (f : A → R B) : R.bind (.ok a) f = f a := rfl
@[simp] theorem R.bad_bind {A B : Type} (f : A → R B) : R.bind .bad f = .bad := rfl
@[simp] theorem R.exc_bind {A B : Type} (c : Str) (x : Option D) (S : Store) (f : A → R B) : R.bind (.exc c x S) f = .exc c x S := rfl
theorem R.bind_ok {A B : Type} {r : R A} {f : A → R B} {b : B} (h : R.bind r f = .ok b) : ∃ a, r = .ok a ∧ f a = .ok b := by
  cases r with
  | ok a => exact ⟨a, rfl, h⟩
  | exc _ _ _ => cases h
  | bad => cases h

inductive Op where
  | add | sub | mul | mod | pow | fdiv | band | shr | shl | addm | mulm
inductive Cm where
  | eq | ne | lt | le | gt | ge | isIn | notIn | isNone | notNone | isTrue | notTrue
inductive Ty where
  | non | bool | int | str | tuple | list | dict
  deriving DecidableEq
inductive Bt where
  | len | tuple | list | listRg | tupRg | divmod | sorted | sortedSet | lenSet | inRg | notInRg | max2 | min2 | dict | dictN | all | any | sum | int | strI | isTy (t : Ty)
inductive Mt where
  | join | append | index | indexT | extend | get2 | upper | setdef | indexL | pop0 | popI | insert
inductive IK where
  | sq | rng1 | rng2 | rng3 | zip2 | enum

inductive E where
  | var (i : Nat)
  | con (d : D)
  | glo (x : Str)
  | tup (es : List E)
  | lst (m : Bool) (es : List E)
  | dct (ks vs : List E)
  | dcn (ks vs : List E)
  | bin (o : Op) (a b : E)
  | neg (a : E)
  | not (a : E)
  | and (es : List E)
  | or (es : List E)
  | orv (a b : E)
  | cmp (o : Cm) (a b : E)
  | chain (o o' : Cm) (a b c : E)
  | ix (a i : E)
  | sl (m : Bool) (a : E) (l : Bool) (lo : E) (h : Bool) (hi : E)
  | rev (a : E)
  | no
  | call (f : Str) (es : List E)
  | callv (i : Nat) (es : List E)
  | fld (c : Str) (a : E) (f : Str)
  | new (c f : Str) (es : List E)
  | meth (c m f : Str) (o : E) (es : List E)
  | blt (m : Bool) (b : Bt) (es : List E)
  | mth (t : Mt) (o : E) (es : List E)
  | isx (a : E) (rs cs : List Str) (tup : Bool)
  | comp (m : Bool) (own : List Nat) (g : List Nat) (one : Bool) (k : IK) (its : List E) (c : E) (e : E)

inductive Tg where
  | nm (i : Nat)
  | tp (gs : List Tg)
  | sub (o i : E)

inductive S where
  | asg (g : Tg) (e : E)
  | exp (e : E)
  | ite (c : E) (a b : List S)
  | fo (g : List Nat) (one : Bool) (k : IK) (its : List E) (body : List S)
  | whl (c : E) (body : List S)
  | ret (e : E)
  | pas | brk | cnt
  | rse
  | rsx (c : Str)
  | setf (c : Str) (o : E) (f : Str) (e : E)
  | tryx (body : List S) (rs : List Str) (c : Str) (n : Option Nat) (suite : List S)

structure Fd where
  ps : Nat
  ns : Nat
  body : List S

/-- which class of errors lies under which -/
def errN : List Str := ["TooMany", "NoSide", "NoNumber", "NoSource", "NoText", "NoCall", "NoKept"]
def subC (c d : Str) : Option Bool := if errN.contains c then (if c = d then some true else if d = ("SoundError" : Str) ∨ d = ("ValueError" : Str) then some true else if errN.contains d then some false else none) else none
def subCs (c : Str) : List Str → Option Bool
  | [] => some false
  | d :: ds => (subC c d).bind fun b => (subCs c ds).map (b || ·)

/-! ### by values -/
mutual
def D.py : D → PyData
  | .non => .none
  | .bl b => .bool b
  | .int i => .int i
  | .str s => .str ⟨(s.map Char.toNat).toArray⟩
  | .tup ds => .tuple (D.pys ds)
  | .lst ds => .list (D.pys ds)
  | .ref _ => .none
  | .fn _ => .none
  | .exc _ => .none
def D.pys : List D → List PyData
  | [] => []
  | d :: ds => d.py :: D.pys ds
end
/-- no ref within, not deeper than n -/
def okD : Nat → D → Bool
  | 0, _ => false
  | n + 1, .tup ds => ds.all (okD n)
  | n + 1, .lst ds => ds.all (okD n)
  | _ + 1, .ref _ => false
  | _ + 1, .fn _ => false
  | _ + 1, .exc _ => false
  | _ + 1, _ => true
def flatD : D → Bool
  | .non | .bl _ | .int _ | .str _ => true
  | _ => false
/-- what a list of the store holds, as data -/
def deref (S : Store) : D → D
  | .ref n => match S[n]? with
    | some (.lst ds) => .lst ds
    | _ => .ref n
  | d => d
def eqD (a b : D) : Bool := PyData.eqv a.py b.py
def inD (a : D) (ds : List D) : Bool := ds.any fun d => eqD d a
/-- the items of a list or a tuple -/
def items (S : Store) : D → Option (List D)
  | .tup ds => some ds
  | .lst ds => some ds
  | .ref n => match S[n]? with
    | some (.lst ds) => some ds
    | _ => none
  | _ => none

def litD (m : Bool) (ds : List D) (S : Store) : R (D × Store) :=
  if m then .ok (.ref S.length, S ++ [.lst ds]) else .ok (.lst ds, S)

/-- the items of a list -/
def lsD (S : Store) : D → Option (List D)
  | .lst ds => some ds
  | .ref n => match S[n]? with
    | some (.lst ds) => some ds
    | _ => none
  | _ => none
/-- a list and a list behind it -/
def catD (m : Bool) (a b : D) (S : Store) : R (D × Store) :=
  match lsD S a, lsD S b with
  | some x, some y => if x.length + y.length ≤ sizeLine then litD m (x ++ y) S else .bad
  | _, _ => .bad
def binD (o : Op) (a b : D) (S : Store) : R (D × Store) :=
  match o, a, b with
  | .add, .int i, .int j => .ok (.int (i + j), S)
  | .add, .str x, .str y => if x.length + y.length ≤ sizeLine then .ok (.str (x ++ y), S) else .bad
  | .add, .tup x, .tup y => if x.length + y.length ≤ sizeLine then .ok (.tup (x ++ y), S) else .bad
  | .add, .lst x, .lst y => if x.length + y.length ≤ sizeLine then .ok (.lst (x ++ y), S) else .bad
  | .addm, .lst x, .lst y => if x.length + y.length ≤ sizeLine then .ok (.ref S.length, S ++ [.lst (x ++ y)]) else .bad
  | .add, .ref n, b => catD false (.ref n) b S
  | .add, .lst x, .ref n => catD false (.lst x) (.ref n) S
  | .addm, .ref n, b => catD true (.ref n) b S
  | .addm, .lst x, .ref n => catD true (.lst x) (.ref n) S
  | .sub, .int i, .int j => .ok (.int (i - j), S)
  | .mul, .int i, .int j => if i.natAbs.log2 + j.natAbs.log2 < 100000000 then .ok (.int (i * j), S) else .bad
  | .mul, .str x, .int j => if 0 ≤ j ∧ j ≤ 1000 ∧ x.length ≤ 10000 then .ok (.str (List.replicate j.toNat x).flatten, S) else .bad
  | .mul, .tup x, .int j => if x ≠ [] ∧ 0 ≤ j ∧ j ≤ 1000 ∧ x.length ≤ 1000 then .ok (.tup (List.replicate j.toNat x).flatten, S) else .bad
  | .mul, .lst x, .int j => if 0 ≤ j ∧ j ≤ 1000000 ∧ x.length ≤ 10 then .ok (.lst (List.replicate j.toNat x).flatten, S) else .bad
  | .mulm, .lst x, .int j => if 0 ≤ j ∧ j ≤ 1000000 ∧ x.length ≤ 10 then litD true (List.replicate j.toNat x).flatten S else .bad
  | .mod, .int i, .int j => if j = 0 then .bad else .ok (.int (i.fmod j), S)
  | .pow, .int i, .int j => if 0 ≤ j ∧ j ≤ 1000000 ∧ i.natAbs < 2 ^ 64 then .ok (.int (i ^ j.toNat), S) else .bad
  | .shl, .int i, .int j => if 0 ≤ j ∧ j ≤ 1000000 ∧ i.natAbs < 2 ^ 64 then .ok (.int (i * 2 ^ j.toNat), S) else .bad
  | .shr, .int i, .int j => if 0 ≤ j then .ok (.int (i / 2 ^ j.toNat), S) else .bad
  | .band, .int i, .int j => .ok (.int (Builtin.bitAnd i j), S)
  | _, _, _ => .bad

mutual
/-- a key of any depth -/
def nkD : D → Option NestedKey
  | .non => some .none
  | .bl b => some (.num (if b = true then 1 else 0))
  | .int i => some (.num i)
  | .str s => some (.text ⟨(s.map Char.toNat).toArray⟩)
  | .tup ds => (nkDs ds).map .tup
  | .lst _ => none
  | .ref _ => none
  | .fn _ => none
  | .exc _ => none
def nkDs : List D → Option (List NestedKey)
  | [] => some []
  | d :: ds => (nkD d).bind fun k => (nkDs ds).map (k :: ·)
end
/-- a key that is a tuple, of eight levels at most -/
def keyN : D → Option NestedKey
  | .tup ds => (nkDs ds).bind fun ks => if (NestedKey.tup ks).depth ≤ 8 then some (.tup ks) else none
  | _ => none
def inN (k : NestedKey) (ks : List D) : Bool := ks.any fun d => decide (keyN d = some k)
def findN : List D → List D → NestedKey → Option D
  | c :: ks, v :: vs, k => if keyN c = some k then some v else findN ks vs k
  | _, _, _ => none
def putVN (k : NestedKey) (d : D) : List D → List D → List D
  | c :: ks, v :: vs => (if keyN c = some k then d else v) :: putVN k d ks vs
  | _, vs => vs
def putN (ks vs : List D) (a : D) (k : NestedKey) (d : D) : List D × List D := if inN k ks then (ks, putVN k d ks vs) else (ks ++ [a], vs ++ [d])
def keyOk : D → Bool
  | .int _ | .str _ => true
  | _ => false
/-- a in b -/
def memD (S : Store) (a b : D) : Option Bool :=
  match b with
  | .str y => match a with
    | .str [c] => some (decide (c ∈ y))
    | _ => none
  | .ref n => match S[n]? with
    | some (.lst ds) => if flatD a ∧ ds.all flatD then some (inD a ds) else if okD 60 a ∧ ds.all (okD 59) then some (inD a ds) else none
    | some (.dct ks _) => if keyOk a ∧ ks.all keyOk then some (inD a ks) else none
    | some (.dcn ks _) => (keyN a).map fun k => inN k ks
    | _ => none
  | .tup ds => if flatD a ∧ ds.all flatD then some (inD a ds) else if okD 60 a ∧ ds.all (okD 59) then some (inD a ds) else none
  | .lst ds => if flatD a ∧ ds.all flatD then some (inD a ds) else if okD 60 a ∧ ds.all (okD 59) then some (inD a ds) else none
  | _ => none
/-- x before y, by the signs -/
def ltS : List Char → List Char → Bool
  | [], [] => false
  | [], _ :: _ => true
  | _ :: _, [] => false
  | a :: x, b :: y => if a.toNat < b.toNat then true else if b.toNat < a.toNat then false else ltS x y
/-- a < b -/
def ltD (a b : D) : Option Bool :=
  match a, b with
  | .int i, .int j => some (decide (i < j))
  | .str x, .str y => some (ltS x y)
  | .tup xs, .tup ys => if okD 60 (.tup xs) ∧ okD 60 (.tup ys) ∧ PySem.W.alike (D.tup xs).py (D.tup ys).py then some (PySem.W.dataLt (D.tup xs).py (D.tup ys).py) else none
  | _, _ => none
/-- a dict beside a text -/
def dctS (S : Store) : D → D → Bool
  | .ref n, .str _ => match S[n]? with
    | some (.dct _ _) => true
    | _ => false
  | _, _ => false
def isNonD : D → Bool
  | .non => true
  | _ => false
def cmpD (o : Cm) (a b : D) (S : Store) : R (D × Store) :=
  match o with
  | .eq => if okD 60 (deref S a) ∧ okD 60 (deref S b) then .ok (.bl (eqD (deref S a) (deref S b)), S) else .bad
  | .ne => if okD 60 (deref S a) ∧ okD 60 (deref S b) then .ok (.bl (!eqD (deref S a) (deref S b)), S) else if dctS S a b then .ok (.bl true, S) else .bad
  | .lt => match ltD a b with
    | some k => .ok (.bl k, S)
    | none => .bad
  | .le => match a, b with
    | .int i, .int j => .ok (.bl (decide (i ≤ j)), S)
    | _, _ => .bad
  | .gt => match a, b with
    | .int i, .int j => .ok (.bl (decide (j < i)), S)
    | _, _ => .bad
  | .ge => match a, b with
    | .int i, .int j => .ok (.bl (decide (j ≤ i)), S)
    | _, _ => .bad
  | .isIn => match memD S a b with
    | some k => .ok (.bl k, S)
    | none => .bad
  | .notIn => match memD S a b with
    | some k => .ok (.bl (!k), S)
    | none => .bad
  | .isNone => match b with
    | .non => .ok (.bl (isNonD a), S)
    | _ => .bad
  | .notNone => match b with
    | .non => .ok (.bl (!isNonD a), S)
    | _ => .bad
  | .isTrue => match a, b with
    | .bl c, .bl k => .ok (.bl (c == k), S)
    | _, _ => .bad
  | .notTrue => match a, b with
    | .bl c, .bl k => .ok (.bl (!(c == k)), S)
    | _, _ => .bad

/-- the value that a key has, by == -/
def findK : List D → List D → D → Option D
  | k :: ks, v :: vs, a => if eqD k a then some v else findK ks vs a
  | _, _, _ => none
def ixD (a i : D) (S : Store) : R (D × Store) :=
  match a, i with
  | .str x, .int j => match atI x j with
    | some c => .ok (.str [c], S)
    | none => .bad
  | .ref n, i => match S[n]? with
    | some (.lst ds) => match i with
      | .int j => match atI ds j with
        | some d => .ok (d, S)
        | none => .bad
      | _ => .bad
    | some (.dct ks vs) => if keyOk i ∧ ks.all keyOk then match findK ks vs i with
        | some d => .ok (d, S)
        | none => .bad
      else .bad
    | some (.dcn ks vs) => match (keyN i).bind fun k => findN ks vs k with
        | some d => .ok (d, S)
        | none => .bad
    | _ => .bad
  | .tup ds, .int j => match atI ds j with
    | some d => .ok (d, S)
    | none => .bad
  | .lst ds, .int j => match atI ds j with
    | some d => .ok (d, S)
    | none => .bad
  | _, _ => .bad
def cut {A : Type} (xs : List A) (lo hi : Option Int) : List A := (xs.drop (HT.sIx xs.length 0 lo)).take (HT.sIx xs.length xs.length hi - HT.sIx xs.length 0 lo)
def slD (m : Bool) (a : D) (lo hi : Option Int) (S : Store) : R (D × Store) :=
  match a with
  | .str x => .ok (.str (cut x lo hi), S)
  | .tup ds => .ok (.tup (cut ds lo hi), S)
  | a => match items S a with
    | some ds => litD m (cut ds lo hi) S
    | none => .bad
def revD (a : D) (S : Store) : R (D × Store) :=
  match a with
  | .str x => .ok (.str x.reverse, S)
  | .tup ds => .ok (.tup ds.reverse, S)
  | .lst ds => .ok (.lst ds.reverse, S)
  | _ => .bad
/-- a in range(b), or not in -/
def inRgD (neg : Bool) (a b : D) (S : Store) : R (D × Store) :=
  match a, b with
  | .int i, .int j => .ok (.bl (if neg then !decide (0 ≤ i ∧ i < j) else decide (0 ≤ i ∧ i < j)), S)
  | _, _ => .bad

def allInt : List D → Option (List Int)
  | [] => some []
  | .int i :: ds => (allInt ds).map (i :: ·)
  | _ :: _ => none
def allStr : List D → Option (List (List Char))
  | [] => some []
  | .str i :: ds => (allStr ds).map (i :: ·)
  | _ :: _ => none
def allBl : List D → Option (List Bool)
  | [] => some []
  | .bl i :: ds => (allBl ds).map (i :: ·)
  | _ :: _ => none
/-- x ≤ y as texts -/
def leS (x y : List Char) : Bool := !ltS y x
def insS (x : List Char) : List (List Char) → List (List Char)
  | [] => [x]
  | y :: ys => if leS x y then x :: y :: ys else y :: insS x ys
def sortS (xs : List (List Char)) : List (List Char) := xs.foldr insS []
def insI (x : Int) : List Int → List Int
  | [] => [x]
  | y :: ys => if x ≤ y then x :: y :: ys else y :: insI x ys
def sortI (xs : List Int) : List Int := xs.foldr insI []
/-- each once -/
def ded {A : Type} [DecidableEq A] : List A → List A
  | [] => []
  | x :: xs => if x ∈ ded xs then ded xs else x :: ded xs
def joinS (sep : List Char) : List (List Char) → List Char
  | [] => []
  | [x] => x
  | x :: xs => x ++ sep ++ joinS sep xs
def tyD (S : Store) : D → Option Ty
  | .non => some .non
  | .bl _ => some .bool
  | .int _ => some .int
  | .str _ => some .str
  | .tup _ => some .tuple
  | .lst _ => some .list
  | .fn _ => none
  | .exc _ => none
  | .ref n => match S[n]? with
    | some (.lst _) => some .list
    | some (.dct _ _) => some .dict
    | some (.dcn _ _) => none
    | _ => none
def subTy (T t : Ty) : Bool := decide (T = t) || (decide (T = .bool) && decide (t = .int))

def putV (a d : D) : List D → List D → List D
  | k :: ks, v :: vs => (if eqD k a then d else v) :: putV a d ks vs
  | _, vs => vs
def putK (ks vs : List D) (a d : D) : List D × List D := if inD a ks then (ks, putV a d ks vs) else (ks ++ [a], vs ++ [d])
/-- dict(pairs) -/
def dictD : List D → List D → List D → Option (List D × List D)
  | [], ks, vs => some (ks, vs)
  | .tup [k, v] :: ds, ks, vs => if keyOk k ∧ ks.length < sizeLine then dictD ds (putK ks vs k v).1 (putK ks vs k v).2 else none
  | _ :: _, _, _ => none
/-- dict(pairs), the keys tuples -/
def dictN : List D → List D → List D → Option (List D × List D)
  | [], ks, vs => some (ks, vs)
  | .tup [k, v] :: ds, ks, vs => match keyN k with
    | some kk => if ks.length < sizeLine then dictN ds (putN ks vs k kk v).1 (putN ks vs k kk v).2 else none
    | none => none
  | _ :: _, _, _ => none
def rangeD (lo : Int) : Nat → List D
  | 0 => []
  | n + 1 => .int lo :: rangeD (lo + 1) n
/-- list(range(n)) -/
def lrgD (m : Bool) (xs : List D) (S : Store) : R (D × Store) :=
  match xs with
  | [.int j] => if 0 ≤ j ∧ j ≤ sizeLine then litD m (rangeD 0 j.toNat) S else .bad
  | _ => .bad
def trgD (xs : List D) (S : Store) : R (D × Store) :=
  match xs with
  | [.int j] => if 0 ≤ j ∧ j ≤ sizeLine then .ok (.tup (rangeD 0 j.toNat), S) else .bad
  | _ => .bad
/-- x.upper(), of signs below 128 -/
def upC (c : Char) : Char := if 97 ≤ c.toNat ∧ c.toNat ≤ 122 then Char.ofNat (c.toNat - 32) else c
def uprD (o : D) (xs : List D) (S : Store) : R (D × Store) :=
  match o, xs with
  | .str x, [] => if x.length ≤ 5592405 ∧ (x.all fun c => decide (c.toNat < 128)) = true then .ok (.str (x.map upC), S) else .bad
  | _, _ => .bad
def dicD (xs : List D) (S : Store) : R (D × Store) :=
  match xs with
  | [.tup ds] => match dictD ds [] [] with
    | some p => .ok (.ref S.length, S ++ [.dct p.1 p.2])
    | none => .bad
  | [.lst ds] => match dictD ds [] [] with
    | some p => .ok (.ref S.length, S ++ [.dct p.1 p.2])
    | none => .bad
  | _ => .bad
def dicND (xs : List D) (S : Store) : R (D × Store) :=
  match xs with
  | [.lst ds] => match dictN ds [] [] with
    | some p => .ok (.ref S.length, S ++ [.dcn p.1 p.2])
    | none => .bad
  | _ => .bad
def int2 : List D → Option (Int × Int)
  | [.int i, .int j] => some (i, j)
  | _ => none
def tupD : D → Bool
  | .tup (_ :: _) => true
  | _ => false
def allAlk (ds : List D) : Bool := ds.all fun a => ds.all fun b => PySem.W.alike a.py b.py
/-- a ≤ b, data alike -/
def leD (a b : D) : Bool := !PySem.W.dataLt b.py a.py
/-- sorted(set(a)), len(set(a)) -/
def setD (m : Bool) (srt : Bool) (a : D) (S : Store) : R (D × Store) :=
  match items S a with
  | some ds => match allStr ds with
    | some ss => if ss.length < 4000 then (if srt then litD m ((sortS (ded ss)).map .str) S else .ok (.int (ded ss).length, S)) else .bad
    | none => match allInt ds with
      | some ns => if ns.length < 4000 then (if srt then (if ns.length < 64 then litD m ((sortI (ded ns)).map .int) S else .bad) else .ok (.int (ded ns).length, S)) else .bad
      | none => .bad
  | none => .bad
/-- str(i) -/
def strID (xs : List D) (S : Store) : R (D × Store) :=
  match xs with
  | [.int i] => if i.natAbs.log2 < 1920 then .ok (.str (toString i).toList, S) else .bad
  | _ => .bad
/-- len of a dict -/
def dlenD (a : D) (S : Store) : Option Nat :=
  match a with
  | .ref n => match S[n]? with
    | some (.dct ks _) => some ks.length
    | some (.dcn ks _) => some ks.length
    | _ => none
  | _ => none
/-- the keys of a dict whose keys are tuples -/
def keysD (S : Store) : D → Option (List D)
  | .ref n => match S[n]? with
    | some (.dcn ks _) => some ks
    | _ => none
  | _ => none
def bltD (m : Bool) (b : Bt) (xs : List D) (S : Store) : R (D × Store) :=
  match b, xs with
  | .len, [.str x] => .ok (.int x.length, S)
  | .len, [a] => match items S a with
    | some ds => .ok (.int ds.length, S)
    | none => match dlenD a S with
      | some k => .ok (.int k, S)
      | none => .bad
  | .tuple, [.str x] => .ok (.tup (x.map fun c => .str [c]), S)
  | .tuple, [a] => match items S a with
    | some ds => .ok (.tup ds, S)
    | none => .bad
  | .list, [.str x] => litD m (x.map fun c => .str [c]) S
  | .list, [a] => match items S a with
    | some ds => litD m ds S
    | none => match keysD S a with
      | some ks => litD m ks S
      | none => .bad
  | .divmod, xs => match int2 xs with
    | some (i, j) => if 0 < j ∧ j.natAbs < 1073741824 then .ok (.tup [.int (i / j), .int (i % j)], S) else .bad
    | none => .bad
  | .sorted, [.tup ds] => if 2 ≤ ds.length ∧ ds.all (okD 50) ∧ ds.all tupD ∧ allAlk ds then litD m (ds.mergeSort leD) S else .bad
  | .sorted, [a] => match items S a with
    | some ds => match allStr ds with
      | some ss => if ss.length < 64 then litD m ((sortS ss).map .str) S else .bad
      | none => match allInt ds with
        | some ns => if ns.length < 64 then litD m ((sortI ns).map .int) S else .bad
        | none => if ds.length ≤ 1 then litD m ds S else if ds.all (okD 50) ∧ ds.all tupD ∧ allAlk ds then litD m (ds.mergeSort leD) S else .bad
    | none => match a with
      | .ref n => match S[n]? with
        | some (.dct ks _) => match allStr ks with
          | some ss => if ss.length < 64 then litD m ((sortS ss).map .str) S else .bad
          | none => .bad
        | some (.dcn ks _) => if ks.length = 1 then litD m ks S else if 2 ≤ ks.length ∧ ks.all (okD 50) ∧ ks.all tupD ∧ allAlk ks then litD m (ks.mergeSort leD) S else .bad
        | _ => .bad
      | _ => .bad
  | .sortedSet, [a] => setD m true a S
  | .lenSet, [a] => setD m false a S
  | .inRg, [a, b] => inRgD false a b S
  | .notInRg, [a, b] => inRgD true a b S
  | .max2, xs => match int2 xs with
    | some (i, j) => .ok (.int (if j > i then j else i), S)
    | none => .bad
  | .min2, xs => match int2 xs with
    | some (i, j) => .ok (.int (if j < i then j else i), S)
    | none => .bad
  | .all, [.tup _] => .bad
  | .any, [.tup _] => .bad
  | .all, [a] => match items S a with
    | some ds => match allBl ds with
      | some bs => .ok (.bl (bs.all id), S)
      | none => .bad
    | none => .bad
  | .any, [a] => match items S a with
    | some ds => match allBl ds with
      | some bs => .ok (.bl (bs.any id), S)
      | none => .bad
    | none => .bad
  | .dict, xs => dicD xs S
  | .dictN, xs => dicND xs S
  | .strI, xs => strID xs S
  | .int, [.bl b] => .ok (.int (if b then 1 else 0), S)
  | .listRg, xs => lrgD m xs S
  | .tupRg, xs => trgD xs S
  | .isTy t, [a] => match tyD S a with
    | some T => .ok (.bl (subTy T t), S)
    | none => .bad
  | _, _ => .bad

/-- whether a method is one of this thing -/
def recvOk (t : Mt) (o : D) (S : Store) : Bool :=
  match t, o with
  | .append, .ref n => match S[n]? with
    | some (.lst _) => true
    | _ => false
  | .join, .str _ => true
  | .upper, .str _ => true
  | .extend, .ref n => match S[n]? with
    | some (.lst _) => true
    | _ => false
  | .indexL, .lst _ => true
  | .indexL, .ref n => match S[n]? with
    | some (.lst _) => true
    | _ => false
  | .pop0, .ref n => match S[n]? with
    | some (.lst _) => true
    | _ => false
  | .popI, .ref n => match S[n]? with
    | some (.lst _) => true
    | _ => false
  | .insert, .ref n => match S[n]? with
    | some (.lst _) => true
    | _ => false
  | .setdef, .ref n => match S[n]? with
    | some (.dcn _ _) => true
    | _ => false
  | .index, .str _ => true
  | .indexT, .tup _ => true
  | .get2, .ref n => match S[n]? with
    | some (.dct _ _) => true
    | some (.dcn _ _) => true
    | _ => false
  | _, _ => false
def appD (o : D) (xs : List D) (S : Store) : R (D × Store) :=
  match o, xs with
  | .ref n, [d] => match S[n]? with
    | some (.lst ds) => if ds.length < sizeLine then .ok (.non, S.set n (.lst (ds ++ [d]))) else .bad
    | _ => .bad
  | _, _ => .bad
def joiD (o : D) (xs : List D) (S : Store) : R (D × Store) :=
  match o, xs with
  | .str s, [a] => match items S a with
    | some ds => match allStr ds with
      | some ss => if (ss.map List.length).sum + ss.length * s.length ≤ 16777216 then .ok (.str (joinS s ss), S) else .bad
      | none => .bad
    | none => .bad
  | _, _ => .bad
def idxD (o : D) (xs : List D) (S : Store) : R (D × Store) :=
  match o, xs with
  | .str x, [.str [c]] => if c ∈ x then .ok (.int (x.idxOf c), S) else .bad
  | _, _ => .bad
def idxTD (o : D) (xs : List D) (S : Store) : R (D × Store) :=
  match o, xs with
  | .tup ds, [.str z] => match allStr ds with
    | some ss => if z ∈ ss then .ok (.int (ss.idxOf z), S) else .bad
    | none => .bad
  | _, _ => .bad
def extD (o : D) (xs : List D) (S : Store) : R (D × Store) :=
  match o, xs with
  | .ref n, [.ref m] => match S[n]? with
    | some (.lst ds) => match S[m]? with
      | some (.lst es) => if ds.length + es.length ≤ sizeLine then .ok (.non, S.set n (.lst (ds ++ es))) else .bad
      | _ => .bad
    | _ => .bad
  | _, _ => .bad
/-- d.get(k, x) -/
def get2D (o : D) (xs : List D) (S : Store) : R (D × Store) :=
  match o, xs with
  | .ref n, [i, d] => match S[n]? with
    | some (.dct ks vs) => if keyOk i ∧ ks.all keyOk then .ok ((findK ks vs i).getD d, S) else .bad
    | some (.dcn ks vs) => match keyN i with
      | some k => .ok ((findN ks vs k).getD d, S)
      | none => .bad
    | _ => .bad
  | _, _ => .bad
/-- d.setdefault(k, x) -/
def sdfD (o : D) (xs : List D) (S : Store) : R (D × Store) :=
  match o, xs with
  | .ref n, [i, d] => match S[n]? with
    | some (.dcn ks vs) => match keyN i with
      | some k => match findN ks vs k with
        | some v => .ok (v, S)
        | none => if ks.length < sizeLine then .ok (d, S.set n (.dcn (putN ks vs i k d).1 (putN ks vs i k d).2)) else .bad
      | none => .bad
    | _ => .bad
  | _, _ => .bad
/-- xs.index(i), whole numbers -/
def idxLD (o : D) (xs : List D) (S : Store) : R (D × Store) :=
  match xs with
  | [.int i] => match lsD S o with
    | some ds => match allInt ds with
      | some ns => if i ∈ ns then .ok (.int (ns.idxOf i), S) else .bad
      | none => .bad
    | none => .bad
  | [.bl i] => match lsD S o with
    | some ds => match allBl ds with
      | some ns => if i ∈ ns then .ok (.int (ns.idxOf i), S) else .bad
      | none => .bad
    | none => .bad
  | _ => .bad
def popD (o : D) (xs : List D) (S : Store) : R (D × Store) :=
  match o, xs with
  | .ref n, [] => match S[n]? with
    | some (.lst ds) => match ds[ds.length - 1]? with
      | some d => .ok (d, S.set n (.lst ds.dropLast))
      | none => .bad
    | _ => .bad
  | _, _ => .bad
def popID (o : D) (xs : List D) (S : Store) : R (D × Store) :=
  match o, xs with
  | .ref n, [.int i] => match S[n]? with
    | some (.lst ds) => if 0 ≤ i ∧ i < 1000000 then (match ds[i.toNat]? with
      | some d => .ok (d, S.set n (.lst (ds.eraseIdx i.toNat)))
      | none => .bad) else .bad
    | _ => .bad
  | _, _ => .bad
def insD (o : D) (xs : List D) (S : Store) : R (D × Store) :=
  match o, xs with
  | .ref n, [.int i, d] => match S[n]? with
    | some (.lst ds) => if 0 ≤ i ∧ i < 1000000 ∧ ds.length < sizeLine then .ok (.non, S.set n (.lst (ds.take i.toNat ++ [d] ++ ds.drop i.toNat))) else .bad
    | _ => .bad
  | _, _ => .bad
def mthD (t : Mt) (o : D) (xs : List D) (S : Store) : R (D × Store) :=
  match t with
  | .append => appD o xs S
  | .join => joiD o xs S
  | .index => idxD o xs S
  | .indexT => idxTD o xs S
  | .extend => extD o xs S
  | .get2 => get2D o xs S
  | .upper => uprD o xs S
  | .setdef => sdfD o xs S
  | .indexL => idxLD o xs S
  | .pop0 => popD o xs S
  | .popI => popID o xs S
  | .insert => insD o xs S

def subD (o i d : D) (S : Store) : R Store :=
  match o with
  | .ref n => match S[n]? with
    | some (.lst ds) => match i with
      | .int j => match ixN ds.length j with
        | some k => .ok (S.set n (.lst (ds.set k d)))
        | none => .bad
      | _ => .bad
    | some (.dct ks vs) => if keyOk i ∧ ks.all keyOk ∧ ks.length < sizeLine then .ok (S.set n (.dct (putK ks vs i d).1 (putK ks vs i d).2)) else .bad
    | some (.dcn ks vs) => match keyN i with
      | some k => if ks.length < sizeLine then .ok (S.set n (.dcn (putN ks vs i k d).1 (putN ks vs i k d).2)) else .bad
      | none => .bad
    | _ => .bad
  | _ => .bad

/-- an object of the class c -/
def insO (c : Str) (a : D) (S : Store) : Option (Nat × List (Str × D)) :=
  match a with
  | .ref n => match S[n]? with
    | some (.ins c' fs) => if c = c' then some (n, fs) else none
    | _ => none
  | _ => none
def fldD (c : Str) (a : D) (f : Str) (S : Store) : R (D × Store) :=
  match insO c a S with
  | some (_, fs) => match fs.lookup f with
    | some d => .ok (d, S)
    | none => .bad
  | none => .bad
def putFD (f : Str) (d : D) : List (Str × D) → List (Str × D)
  | [] => [(f, d)]
  | (g, x) :: r => if g = f then (g, d) :: r else (g, x) :: putFD f d r
def setFD (c : Str) (a : D) (f : Str) (d : D) (S : Store) : R Store :=
  match insO c a S with
  | some (n, fs) => if fs.length < 1000 then .ok (S.set n (.ins c (putFD f d fs))) else .bad
  | none => .bad
/-- an object of c without an attribute of the name -/
def hasM (c m : Str) (a : D) (S : Store) : Bool :=
  match insO c a S with
  | some (_, fs) => (fs.lookup m).isNone
  | none => false
def noneD (n : Nat) (p : D × Store) : R (D × Store) :=
  match p.1 with
  | .non => .ok (.ref n, p.2)
  | _ => .bad
/-- what a loop walks: given items, or a list of the store -/
inductive Itr where
  | sq (ds : List D)
  | rf (n : Nat)
  | zl (n : Nat) (bs : List D)
def zipD : List D → List D → List D
  | a :: as, b :: bs => .tup [a, b] :: zipD as bs
  | _, _ => []
/-- lo, lo + c, .. (n of them) -/
def rangeC (lo c : Int) : Nat → List D
  | 0 => []
  | n + 1 => .int lo :: rangeC (lo + c) c n
def itrD (k : IK) (xs : List D) (S : Store) : R Itr :=
  match k with
  | .sq => match xs with
    | [.str x] => .ok (.sq (x.map fun c => .str [c]))
    | [.tup ds] => .ok (.sq ds)
    | [.lst ds] => .ok (.sq ds)
    | [.ref n] => match S[n]? with
      | some (.lst _) => .ok (.rf n)
      | _ => .bad
    | _ => .bad
  | .rng1 => match xs with
    | [.int j] => if -(2 ^ 61) ≤ j ∧ j ≤ sizeLine then .ok (.sq (rangeD 0 j.toNat)) else .bad
    | _ => .bad
  | .rng2 => match xs with
    | [.int i, .int j] => if -(2 ^ 61) ≤ i ∧ i < 2 ^ 61 ∧ -(2 ^ 61) ≤ j ∧ j < 2 ^ 61 ∧ j - i ≤ sizeLine then .ok (.sq (rangeD i (j - i).toNat)) else .bad
    | _ => .bad
  | .rng3 => match xs with
    | [.int i, .int j, .int c] => if -(2 ^ 61) ≤ i ∧ i < 2 ^ 61 ∧ -(2 ^ 61) ≤ j ∧ j < 2 ^ 61 ∧ 0 < c ∧ c < 1073741824 ∧ j - i ≤ sizeLine then .ok (.sq (rangeC i c ((j - i + c - 1) / c).toNat)) else .bad
    | _ => .bad
  | .zip2 => match xs with
    | [.tup as, .tup bs] => .ok (.sq (zipD as bs))
    | [.lst as, .tup bs] => .ok (.sq (zipD as bs))
    | [.tup as, .lst bs] => .ok (.sq (zipD as bs))
    | [.lst as, .lst bs] => .ok (.sq (zipD as bs))
    | [.ref n, .tup bs] => match S[n]? with
      | some (.lst _) => .ok (.zl n bs)
      | _ => .bad
    | [.ref n, .lst bs] => match S[n]? with
      | some (.lst _) => .ok (.zl n bs)
      | _ => .bad
    | _ => .bad
  | .enum => match xs with
    | [.tup ds] => .ok (.sq (zipD (rangeD 0 ds.length) ds))
    | _ => .bad

/-! ### what the language makes -/
structure Ctx where
  call : Str → List D → Store → R (D × Store)
  glo : Str → Option D
  fuel : Nat

def wipeE (ρ : Env) : List Nat → Env
  | [] => ρ
  | v :: vs => (wipeE ρ vs).set v none
/-- the names of a loop's target -/
def bindG (g : List Nat) (one : Bool) (d : D) (ρ : Env) : R Env :=
  if one then match g with
    | [i] => .ok (ρ.set i (some d))
    | _ => .bad
  else match d with
    | .tup ds => if ds.length = g.length then .ok ((g.zip ds).foldl (fun ρ p => ρ.set p.1 (some p.2)) ρ) else .bad
    | _ => .bad
def compL (f : D → Store → R (List D × Store)) : List D → Store → R (List D × Store)
  | [], S => .ok ([], S)
  | d :: ds, S => (f d S).bind fun p => (compL f ds p.2).bind fun q => .ok (p.1 ++ q.1, q.2)
/-- over a list of the store that keeps its length -/
def compR (f : D → Store → R (List D × Store)) (n len : Nat) : Nat → Nat → Store → R (List D × Store)
  | 0, _, S => match S[n]? with
    | some (.lst ds) => if ds.length = len then .ok ([], S) else .bad
    | _ => .bad
  | m + 1, i, S => match S[n]? with
    | some (.lst ds) => if ds.length = len then match ds[i]? with
        | some d => (f d S).bind fun p => (compR f n len m (i + 1) p.2).bind fun q => .ok (p.1 ++ q.1, q.2)
        | none => .bad
      else .bad
    | _ => .bad
def compI (f : D → Store → R (List D × Store)) (it : Itr) (S : Store) : R (List D × Store) :=
  match it with
  | .sq ds => compL f ds S
  | .rf n => match S[n]? with
    | some (.lst ds) => compR f n ds.length ds.length 0 S
    | _ => .bad
  | .zl _ _ => .bad
def partD (p : D × Store) : R (Option Int × Store) :=
  match p.1 with
  | .int i => .ok (some i, p.2)
  | _ => .bad

def tupOnly (p : D × Store) : R (D × Store) :=
  match p.1 with
  | .tup ds => .ok (.tup ds, p.2)
  | _ => .bad

mutual
def evE (G : Ctx) : E → Env → Store → R (D × Store)
  | .var i, ρ, S => match ρ[i]? with
    | some (some d) => .ok (d, S)
    | _ => .bad
  | .con d, _, S => .ok (d, S)
  | .glo x, _, S => match G.glo x with
    | some d => .ok (d, S)
    | none => .bad
  | .tup es, ρ, S => (evEs G es ρ S).bind fun p => .ok (.tup p.1, p.2)
  | .lst m es, ρ, S => (evEs G es ρ S).bind fun p => litD m p.1 p.2
  | .dct ks vs, ρ, S => match ks, vs with
    | [], [] => .ok (.ref S.length, S ++ [.dct [] []])
    | [.con (.str a), .con (.str c)], [.con (.str b), .con (.str d)] => if a ≠ c then .ok (.ref S.length, S ++ [.dct [.str a, .str c] [.str b, .str d]]) else .bad
    | _, _ => .bad
  | .dcn ks vs, ρ, S => match ks, vs with
    | [], [] => .ok (.ref S.length, S ++ [.dcn [] []])
    | [a], [b] => (evE G a ρ S).bind fun p => (evE G b ρ p.2).bind fun q => match keyN p.1 with
      | some _ => .ok (.ref q.2.length, q.2 ++ [.dcn [p.1] [q.1]])
      | none => .bad
    | _, _ => .bad
  | .bin o a b, ρ, S => (evE G a ρ S).bind fun p => (evE G b ρ p.2).bind fun q => binD o p.1 q.1 q.2
  | .neg a, ρ, S => (evE G a ρ S).bind fun p => match p.1 with
    | .int i => .ok (.int (-i), p.2)
    | _ => .bad
  | .not a, ρ, S => (evE G a ρ S).bind fun p => match p.1 with
    | .bl b => .ok (.bl (!b), p.2)
    | _ => .bad
  | .and es, ρ, S => evAnd G es ρ S
  | .or es, ρ, S => evOr G es ρ S
  | .orv a b, ρ, S => (evE G a ρ S).bind fun p => match p.1 with
    | .tup (d :: ds) => .ok (.tup (d :: ds), p.2)
    | .tup [] => (evE G b ρ p.2).bind tupOnly
    | .non => (evE G b ρ p.2).bind tupOnly
    | _ => .bad
  | .cmp o a b, ρ, S => (evE G a ρ S).bind fun p => (evE G b ρ p.2).bind fun q => cmpD o p.1 q.1 q.2
  | .chain o o' a b c, ρ, S => (evE G a ρ S).bind fun p => (evE G b ρ p.2).bind fun q => (cmpD o p.1 q.1 q.2).bind fun r => match r.1 with
    | .bl true => (evE G c ρ r.2).bind fun s => cmpD o' q.1 s.1 s.2
    | .bl false => .ok (.bl false, r.2)
    | _ => .bad
  | .ix a i, ρ, S => (evE G a ρ S).bind fun p => (evE G i ρ p.2).bind fun q => ixD p.1 q.1 q.2
  | .sl m a l lo h hi, ρ, S => (evE G a ρ S).bind fun p => (if l then (evE G lo ρ p.2).bind partD else .ok (none, p.2)).bind fun q =>
      (if h then (evE G hi ρ q.2).bind partD else .ok (none, q.2)).bind fun r => slD m p.1 q.1 r.1 r.2
  | .rev a, ρ, S => (evE G a ρ S).bind fun p => revD p.1 p.2
  | .no, _, _ => .bad
  | .call f es, ρ, S => (evEs G es ρ S).bind fun p => G.call f p.1 p.2
  | .callv i es, ρ, S => match ρ[i]? with
    | some (some (.fn f)) => (evEs G es ρ S).bind fun p => G.call f p.1 p.2
    | _ => .bad
  | .fld c a f, ρ, S => (evE G a ρ S).bind fun p => fldD c p.1 f p.2
  | .new c f es, ρ, S => (evEs G es ρ S).bind fun p => (G.call f (.ref p.2.length :: p.1) (p.2 ++ [.ins c []])).bind (noneD p.2.length)
  | .meth c m f o es, ρ, S => (evE G o ρ S).bind fun p => if hasM c m p.1 p.2 then (evEs G es ρ p.2).bind fun q => G.call f (p.1 :: q.1) q.2 else .bad
  | .blt m b es, ρ, S => (evEs G es ρ S).bind fun p => bltD m b p.1 p.2
  | .mth t o es, ρ, S => (evE G o ρ S).bind fun p => if recvOk t p.1 p.2 then (evEs G es ρ p.2).bind fun q => mthD t p.1 q.1 q.2 else .bad
  | .isx a rs cs _, ρ, S => (evE G a ρ S).bind fun p => match p.1 with
    | .exc c => if c ∈ rs then (match subCs c cs with
      | some b => .ok (.bl b, p.2)
      | none => .bad) else .bad
    | _ => .bad
  | .comp m own g one k its c e, ρ, S => (evEs G its ρ S).bind fun p => (itrD k p.1 p.2).bind fun it =>
      (compI (fun d S => (bindG g one d (wipeE ρ own)).bind fun ρ' => (evE G c ρ' S).bind fun q => match q.1 with
        | .bl true => (evE G e ρ' q.2).bind fun r => .ok ([r.1], r.2)
        | .bl false => .ok ([], q.2)
        | _ => .bad) it p.2).bind fun q => litD m q.1 q.2
def evEs (G : Ctx) : List E → Env → Store → R (List D × Store)
  | [], _, S => .ok ([], S)
  | e :: es, ρ, S => (evE G e ρ S).bind fun p => (evEs G es ρ p.2).bind fun q => .ok (p.1 :: q.1, q.2)
def evAnd (G : Ctx) : List E → Env → Store → R (D × Store)
  | [], _, _ => .bad
  | [e], ρ, S => evE G e ρ S
  | e :: es, ρ, S => (evE G e ρ S).bind fun p => match p.1 with
    | .bl true => evAnd G es ρ p.2
    | .bl false => .ok (.bl false, p.2)
    | _ => .bad
def evOr (G : Ctx) : List E → Env → Store → R (D × Store)
  | [], _, _ => .bad
  | [e], ρ, S => evE G e ρ S
  | e :: es, ρ, S => (evE G e ρ S).bind fun p => match p.1 with
    | .bl true => .ok (.bl true, p.2)
    | .bl false => evOr G es ρ p.2
    | _ => .bad
end

inductive Fl where
  | nx | rt (d : D) | bk | ct | ex (c : Str)
/-- an error of this statement, with the names as they stood ahead of it -/
def R.hold (b : Bool) (ρ : Env) : R (Fl × Env × Store) → R (Fl × Env × Store)
  | .ok p => .ok p
  | .exc c _ S => if b then .ok (.ex c, ρ, S) else .bad
  | .bad => .bad
@[simp] theorem R.hold_ok {b : Bool} {ρ : Env} {p : Fl × Env × Store} : R.hold b ρ (.ok p) = .ok p := rfl
mutual
/-- what may let an error out -/
def xok : E → Bool
  | .var _ => true
  | .con _ => true
  | .glo _ => true
  | .lst _ es => xoks es
  | .tup es => xoks es
  | .call _ (e :: es) => xok e && xoks es
  | .blt _ b (e :: es) => (match b with
    | .tuple => true
    | .sorted => true
    | _ => false) && xok e && xoks es
  | .ix a i => xok a && xok i
  | .comp _ _ _ _ .sq [e] (.con _) (.var _) => xok e
  | _ => false
def xoks : List E → Bool
  | [] => true
  | e :: es => xok e && xoks es
end
def nmG : Tg → Bool
  | .nm _ => true
  | .tp gs => gs.all fun g => match g with
    | .nm _ => true
    | _ => false
  | .sub _ _ => false
def xS (_ : S) : Bool := false
mutual
def asg (G : Ctx) : Tg → D → Env → Store → R (Env × Store)
  | .nm i, d, ρ, S => .ok (ρ.set i (some d), S)
  | .tp gs, d, ρ, S => match d with
    | .tup ds => if ds.length = gs.length then asgs G gs ds ρ S else .bad
    | _ => .bad
  | .sub o i, d, ρ, S => (evE G o ρ S).bind fun p => (evE G i ρ p.2).bind fun q => (subD p.1 q.1 d q.2).bind fun S' => .ok (ρ, S')
def asgs (G : Ctx) : List Tg → List D → Env → Store → R (Env × Store)
  | g :: gs, d :: ds, ρ, S => (asg G g d ρ S).bind fun p => asgs G gs ds p.1 p.2
  | [], [], ρ, S => .ok (ρ, S)
  | _, _, _, _ => .bad
end

def forL (f : D → Env → Store → R (Fl × Env × Store)) : List D → Env → Store → R (Fl × Env × Store)
  | [], ρ, S => .ok (.nx, ρ, S)
  | d :: ds, ρ, S => (f d ρ S).bind fun p => match p.1 with
    | .nx => forL f ds p.2.1 p.2.2
    | .ct => forL f ds p.2.1 p.2.2
    | .bk => .ok (.nx, p.2)
    | .rt d => .ok (.rt d, p.2)
    | .ex c => .ok (.ex c, p.2)
def forR (f : D → Env → Store → R (Fl × Env × Store)) (n len : Nat) : Nat → Nat → Env → Store → R (Fl × Env × Store)
  | 0, _, ρ, S => match S[n]? with
    | some (.lst ds) => if ds.length = len then .ok (.nx, ρ, S) else .bad
    | _ => .bad
  | m + 1, i, ρ, S => match S[n]? with
    | some (.lst ds) => if ds.length = len then match ds[i]? with
        | some d => (f d ρ S).bind fun p => match p.1 with
          | .nx => forR f n len m (i + 1) p.2.1 p.2.2
          | .ct => forR f n len m (i + 1) p.2.1 p.2.2
          | .bk => .ok (.nx, p.2)
          | .rt d => .ok (.rt d, p.2)
          | .ex c => .ok (.ex c, p.2)
        | none => .bad
      else .bad
    | _ => .bad
/-- a list of the store beside given things -/
def forZ (f : D → Env → Store → R (Fl × Env × Store)) (n : Nat) (bs : List D) (len : Nat) : Nat → Nat → Env → Store → R (Fl × Env × Store)
  | 0, _, ρ, S => match S[n]? with
    | some (.lst ds) => if ds.length = len then .ok (.nx, ρ, S) else .bad
    | _ => .bad
  | m + 1, i, ρ, S => match S[n]? with
    | some (.lst ds) => if ds.length = len then match ds[i]?, bs[i]? with
        | some d, some b => (f (.tup [d, b]) ρ S).bind fun p => match p.1 with
          | .nx => forZ f n bs len m (i + 1) p.2.1 p.2.2
          | .ct => forZ f n bs len m (i + 1) p.2.1 p.2.2
          | .bk => .ok (.nx, p.2)
          | .rt d => .ok (.rt d, p.2)
          | .ex c => .ok (.ex c, p.2)
        | _, _ => .bad
      else .bad
    | _ => .bad
def forI (f : D → Env → Store → R (Fl × Env × Store)) (it : Itr) (ρ : Env) (S : Store) : R (Fl × Env × Store) :=
  match it with
  | .sq ds => forL f ds ρ S
  | .rf n => match S[n]? with
    | some (.lst ds) => forR f n ds.length ds.length 0 ρ S
    | _ => .bad
  | .zl n bs => match S[n]? with
    | some (.lst ds) => forZ f n bs ds.length (min ds.length bs.length) 0 ρ S
    | _ => .bad
def whlN (c : Env → Store → R (D × Store)) (f : Env → Store → R (Fl × Env × Store)) : Nat → Env → Store → R (Fl × Env × Store)
  | 0, _, _ => .bad
  | n + 1, ρ, S => (c ρ S).bind fun p => match p.1 with
    | .bl true => (f ρ p.2).bind fun q => match q.1 with
      | .nx => whlN c f n q.2.1 q.2.2
      | .ct => whlN c f n q.2.1 q.2.2
      | .bk => .ok (.nx, q.2)
      | .rt d => .ok (.rt d, q.2)
      | .ex c => .ok (.ex c, q.2)
    | .bl false => .ok (.nx, ρ, p.2)
    | _ => .bad
mutual
def evS (G : Ctx) : S → Env → Store → R (Fl × Env × Store)
  | .asg g e, ρ, s => (evE G e ρ s).bind fun p => (asg G g p.1 ρ p.2).bind fun q => .ok (.nx, q)
  | .exp e, ρ, s => (evE G e ρ s).bind fun p => .ok (.nx, ρ, p.2)
  | .ite c a b, ρ, s => (evE G c ρ s).bind fun p => match p.1 with
    | .bl true => evSs G a ρ p.2
    | .bl false => evSs G b ρ p.2
    | _ => .bad
  | .fo g one k its body, ρ, s => (evEs G its ρ s).bind fun p => (itrD k p.1 p.2).bind fun it =>
      forI (fun d ρ s => (bindG g one d ρ).bind fun ρ' => evSs G body ρ' s) it ρ p.2
  | .whl c body, ρ, s => whlN (evE G c) (evSs G body) G.fuel ρ s
  | .ret e, ρ, s => (evE G e ρ s).bind fun p => .ok (.rt p.1, ρ, p.2)
  | .pas, ρ, s => .ok (.nx, ρ, s)
  | .brk, ρ, s => .ok (.bk, ρ, s)
  | .cnt, ρ, s => .ok (.ct, ρ, s)
  | .rse, _, _ => .bad
  | .rsx c, ρ, s => .ok (.ex c, ρ, s)
  | .setf c o f e, ρ, s => (evE G e ρ s).bind fun p => (evE G o ρ p.2).bind fun q => (setFD c q.1 f p.1 q.2).bind fun s' => .ok (.nx, ρ, s')
  | .tryx body rs c n suite, ρ, s => (evSs G body ρ s).bind fun p => match p.1 with
    | .ex d => if d ∈ rs then (match subC d c with
      | some true => (evSs G suite (match n with
          | some i => p.2.1.set i (some (.exc d))
          | none => p.2.1) p.2.2).bind fun q => match q.1 with
        | .ex _ => .bad
        | _ => .ok (q.1, (match n with
          | some i => q.2.1.set i none
          | none => q.2.1), q.2.2)
      | some false => .ok p
      | none => .bad) else .bad
    | _ => .ok p
def evSs (G : Ctx) : List S → Env → Store → R (Fl × Env × Store)
  | [], ρ, s => .ok (.nx, ρ, s)
  | a :: as, ρ, s => ((evS G a ρ s).hold (xS a) ρ).bind fun p => match p.1 with
    | .nx => evSs G as p.2.1 p.2.2
    | _ => .ok p
end

/-- the program's defs, its constants -/
structure Pg where
  fn : Str → Option Fd
  glo : Str → Option D
  fuel : Nat
/-- the slots at a def's entry -/
def entry (d : Fd) (xs : List D) : Env := xs.map some ++ List.replicate (d.ns - d.ps) none
def runF (G : Ctx) (d : Fd) (xs : List D) (s : Store) : R (D × Store) :=
  if xs.length = d.ps then (evSs G d.body (entry d xs) s).bind fun p => match p.1 with
    | .rt v => .ok (v, p.2.2)
    | .nx => .ok (.non, p.2.2)
    | .ex c => .exc c none p.2.2
    | _ => .bad
  else .bad
/-- calls nested at most k deep -/
def callF (P : Pg) : Nat → Str → List D → Store → R (D × Store)
  | 0, _, _, _ => .bad
  | k + 1, f, xs, s => match P.fn f with
    | some d => runF ⟨callF P k, P.glo, P.fuel⟩ d xs s
    | none => .bad
end Z

set_option Elab.async false
set_option linter.all false
set_option maxRecDepth 100000
set_option maxHeartbeats 4000000
/-! Rel: how data stand in the heap. -/
namespace Z
open PySem L2 PySem.Spec PyProof.Rows

/-- the fixed things, and the world that a text's hash is of -/
structure KW where
  K : PySem.W.Frag
  w : World
abbrev KW.lookup (K : KW) (a : Addr) : Option Obj := K.K.lookup a
instance : Coe KW PySem.W.Frag := ⟨KW.K⟩
abbrev _root_.L2.Cx.kw (X : L2.Cx) : KW := ⟨X.K, X.w⟩
def toS (s : List Char) : Str := ⟨(s.map Char.toNat).toArray⟩
theorem toS_length (s : List Char) : (toS s).length = s.length := by
  show (s.map Char.toNat).toArray.size = _
  simp
def Off (al : Nat → Addr) (n : Nat) (U : List Addr) (a : Addr) : Prop := (∀ i, i < n → a ≠ al i) ∧ a ∉ U
/-- a tuple whose own object is known: without a dict -/
def TupR (H : Hp) (a : Addr) (xs : List V) : Prop := ∃ o, H a = some (.frz o (.tup xs)) ∧ o.dict = none
def TupAt (K : KW) (al : Nat → Addr) (n : Nat) (U : List Addr) (H : Hp) (a : Addr) (xs : List V) : Prop :=
  (TupR H a xs ∧ Off al n U a) ∨
    ∃ (o : Obj) (its : Array Value) (n : Nat), K.lookup a = some o ∧ o.cls = .type "tuple" ∧ o.dict = none ∧ o.data = .seq its n ∧ its.size ≤ sizeLine ∧ Vals xs its.toList
def LstAt (K : KW) (al : Nat → Addr) (n : Nat) (U : List Addr) (H : Hp) (a : Addr) (xs : List V) : Prop :=
  (Rd H a (.lst xs) ∧ Off al n U a) ∨
    ∃ (o : Obj) (its : Array Value) (n : Nat), K.lookup a = some o ∧ o.cls = .type "list" ∧ o.dict = none ∧ o.data = .seq its n ∧ its.size ≤ sizeLine ∧ Vals xs its.toList
section
variable {K : KW} {al al' al2 : Nat → Addr} {n n' n2 : Nat} {U : List Addr} {H H' H2 : Hp} {a p : Addr} {xs : List V}
theorem TupR.rd (h : TupR H a xs) : Rd H a (.tup xs) := let ⟨o, e, _⟩ := h; .inr ⟨o, e⟩
theorem TupAt.sq (h : TupAt K al n U H a xs) : SqT K H a xs := by
  rcases h with h | ⟨o, its, m, h1, h2, _, h4⟩
  · exact .inl h.1.rd
  · exact .inr ⟨o, its, m, h1, h2, h4⟩
theorem LstAt.sq (h : LstAt K al n U H a xs) : SqL K H a xs := by
  rcases h with h | h
  · exact .inl h.1
  · exact .inr h

/-- an error that was caught, of the class at C -/
def exV (C a : Addr) : HO := .ext fun h => ∃ vs sl, h.get? a = some ⟨.ref C, none, .fields vs, sl⟩
def ExAt (K : KW) (al : Nat → Addr) (n : Nat) (U : List Addr) (H : Hp) (c : Str) (a : Addr) : Prop := ∃ C, PySem.W.nsIn K.K mainGlobals c = some (some (.ref C)) ∧ H a = some (exV C a) ∧ Off al n U a
mutual
def Rep (K : KW) (al : Nat → Addr) (n : Nat) (U : List Addr) (H : Hp) : D → V → Prop
  | .non, v => v = .non
  | .bl b, v => v = .bl b
  | .int i, v => v = .int i
  | .str s, v => v = .str (toS s) ∧ s.length ≤ sizeLine
  | .tup ds, v => ∃ a vs, v = .ref a ∧ TupAt K al n U H a vs ∧ ds.length ≤ sizeLine ∧ Reps K al n U H ds vs
  | .lst ds, v => ∃ a vs, v = .ref a ∧ LstAt K al n U H a vs ∧ ds.length ≤ sizeLine ∧ Reps K al n U H ds vs
  | .ref i, v => i < n ∧ v = .ref (al i)
  | .fn x, v => ∃ f, v = .ref f ∧ PySem.W.nsIn K.K mainGlobals x = some (some (.ref f))
  | .exc c, v => ∃ a, v = .ref a ∧ ExAt K al n U H c a
def Reps (K : KW) (al : Nat → Addr) (n : Nat) (U : List Addr) (H : Hp) : List D → List V → Prop
  | [], vs => vs = []
  | d :: ds, vs => ∃ v r, vs = v :: r ∧ Rep K al n U H d v ∧ Reps K al n U H ds r
end

/-- from one state to a later one -/
structure Nxt (al : Nat → Addr) (n : Nat) (H : Hp) (al' : Nat → Addr) (n' : Nat) (H' : Hp) : Prop where
  ext : ∀ a o, H a = some o → (∀ i, i < n → a ≠ al i) → H' a = some o
  le : n ≤ n'
  agr : ∀ i, i < n → al' i = al i
  new : ∀ i, n ≤ i → i < n' → H (al' i) = none
theorem Nxt.refl : Nxt al n H al n H := ⟨fun _ _ e _ => e, Nat.le_refl _, fun _ _ => rfl, fun i h1 h2 => absurd h2 (Nat.not_lt.mpr h1)⟩
theorem Nxt.trans (h : Nxt al n H al' n' H') (g : Nxt al' n' H' al2 n2 H2) (hz : ∀ i, i < n → H (al i) ≠ none → H' (al' i) ≠ none) : Nxt al n H al2 n2 H2 := by
  refine ⟨fun a o e z => ?_, Nat.le_trans h.le g.le, fun i hi => ?_, fun i h1 h2 => ?_⟩
  · refine g.ext a o (h.ext a o e z) fun i hi => ?_
    by_cases hn : i < n
    · rw [h.agr i hn]; exact z i hn
    · intro q
      have := h.new i (by omega) hi
      rw [← q, e] at this
      cases this
  · rw [g.agr i (Nat.lt_of_lt_of_le hi h.le), h.agr i hi]
  · by_cases hn : i < n'
    · rw [g.agr i hn]; exact h.new i h1 hn
    · have q := g.new i (by omega) h2
      cases e : H (al2 i) with
      | none => rfl
      | some o =>
        by_cases hx : ∀ j, j < n → al2 i ≠ al j
        · rw [h.ext _ _ e hx] at q
          cases q
        · exfalso
          apply hx
          intro j hj ej
          rw [ej] at q e
          have := hz j hj (by rw [e]; exact fun z => nomatch z)
          rw [h.agr j hj] at this
          exact this q
theorem Off.nxt (h : Off al n U a) (g : Nxt al n H al' n' H') {o : HO} (e : H a = some o) : Off al' n' U a := by
  refine ⟨fun i hi => ?_, h.2⟩
  by_cases hn : i < n
  · rw [g.agr i hn]; exact h.1 i hn
  · intro q
    have := g.new i (by omega) hi
    rw [← q, e] at this
    cases this
theorem Rd.nxt {u : HO} (h : Rd H a u) (o : Off al n U a) (g : Nxt al n H al' n' H') : Rd H' a u ∧ Off al' n' U a := by
  rcases h with h | ⟨ob, h⟩
  · exact ⟨.inl (g.ext a _ h o.1), o.nxt g h⟩
  · exact ⟨.inr ⟨ob, g.ext a _ h o.1⟩, o.nxt g h⟩
theorem TupAt.nxt (h : TupAt K al n U H a xs) (g : Nxt al n H al' n' H') : TupAt K al' n' U H' a xs := by
  rcases h with ⟨⟨ob, h, hd⟩, o⟩ | h
  · exact .inl ⟨⟨ob, g.ext a _ h o.1, hd⟩, o.nxt g h⟩
  · exact .inr h
theorem LstAt.nxt (h : LstAt K al n U H a xs) (g : Nxt al n H al' n' H') : LstAt K al' n' U H' a xs := by
  rcases h with ⟨h, o⟩ | h
  · exact .inl (Rd.nxt h o g)
  · exact .inr h
mutual
theorem Rep.nxt (g : Nxt al n H al' n' H') : ∀ (d : D) (v : V), Rep K al n U H d v → Rep K al' n' U H' d v
  | .non, v, h => by simp only [Rep] at h ⊢; exact h
  | .bl b, v, h => by simp only [Rep] at h ⊢; exact h
  | .int i, v, h => by simp only [Rep] at h ⊢; exact h
  | .str s, v, h => by simp only [Rep] at h ⊢; exact h
  | .tup ds, v, h => by
    simp only [Rep] at h ⊢
    obtain ⟨a, vs, e, t, l, r⟩ := h
    exact ⟨a, vs, e, t.nxt g, l, Reps.nxt g ds vs r⟩
  | .lst ds, v, h => by
    simp only [Rep] at h ⊢
    obtain ⟨a, vs, e, t, l, r⟩ := h
    exact ⟨a, vs, e, t.nxt g, l, Reps.nxt g ds vs r⟩
  | .ref i, v, h => by
    simp only [Rep] at h ⊢
    exact ⟨Nat.lt_of_lt_of_le h.1 g.le, by rw [g.agr i h.1]; exact h.2⟩
  | .fn x, v, h => by
    simp only [Rep] at h ⊢
    exact h
  | .exc c, v, h => by
    simp only [Rep] at h ⊢
    obtain ⟨a, e, C, h1, h2, h3⟩ := h
    exact ⟨a, e, C, h1, g.ext a _ h2 h3.1, h3.nxt g h2⟩
theorem Reps.nxt (g : Nxt al n H al' n' H') : ∀ (ds : List D) (vs : List V), Reps K al n U H ds vs → Reps K al' n' U H' ds vs
  | [], vs, h => by simp only [Reps] at h ⊢; exact h
  | d :: ds, vs, h => by
    simp only [Reps] at h ⊢
    obtain ⟨v, r, e, h1, h2⟩ := h
    exact ⟨v, r, e, Rep.nxt g d v h1, Reps.nxt g ds r h2⟩
end
theorem Reps.length : ∀ {ds : List D} {vs : List V}, Reps K al n U H ds vs → ds.length = vs.length
  | [], vs, h => by simp only [Reps] at h; subst h; rfl
  | d :: ds, vs, h => by
    simp only [Reps] at h
    obtain ⟨v, r, e, _, h2⟩ := h
    subst e
    simp only [List.length_cons, Reps.length h2]
theorem Reps.get : ∀ {ds : List D} {vs : List V} {i : Nat} {d : D}, Reps K al n U H ds vs → ds[i]? = some d → ∃ v, vs[i]? = some v ∧ Rep K al n U H d v
  | [], _, _, _, _, e => by simp at e
  | d :: ds, vs, 0, _, h, e => by
    simp only [Reps] at h
    obtain ⟨v, r, rfl, h1, h2⟩ := h
    simp at e
    subst e
    exact ⟨v, rfl, h1⟩
  | d :: ds, vs, i + 1, _, h, e => by
    simp only [Reps] at h
    obtain ⟨v, r, rfl, h1, h2⟩ := h
    obtain ⟨u, e1, e2⟩ := Reps.get (i := i) h2 (by simpa using e)
    exact ⟨u, by simpa using e1, e2⟩
theorem Reps.append : ∀ {ds es : List D} {vs us : List V}, Reps K al n U H ds vs → Reps K al n U H es us → Reps K al n U H (ds ++ es) (vs ++ us)
  | [], _, _, _, h, g => by simp only [Reps] at h; subst h; exact g
  | d :: ds, _, _, _, h, g => by
    simp only [Reps] at h
    obtain ⟨v, r, rfl, h1, h2⟩ := h
    simp only [List.cons_append, Reps]
    exact ⟨v, _, rfl, h1, Reps.append h2 g⟩
theorem Reps.set {d : D} {v : V} (q : Rep K al n U H d v) : ∀ {ds : List D} {vs : List V} (i : Nat), Reps K al n U H ds vs → Reps K al n U H (ds.set i d) (vs.set i v)
  | [], _, _, h => by simp only [Reps] at h; subst h; simp [Reps]
  | _ :: _, _, 0, h => by
    simp only [Reps] at h
    obtain ⟨v, r, rfl, h1, h2⟩ := h
    simp only [List.set_cons_zero, Reps]
    exact ⟨_, _, rfl, q, h2⟩
  | _ :: _, _, i + 1, h => by
    simp only [Reps] at h
    obtain ⟨v, r, rfl, h1, h2⟩ := h
    simp only [List.set_cons_succ, Reps]
    exact ⟨_, _, rfl, h1, Reps.set q i h2⟩
theorem Reps.take : ∀ {ds : List D} {vs : List V} (i : Nat), Reps K al n U H ds vs → Reps K al n U H (ds.take i) (vs.take i)
  | _, _, 0, h => by simp [Reps]
  | [], _, _ + 1, h => by simp only [Reps] at h; subst h; simp [Reps]
  | _ :: _, _, i + 1, h => by
    simp only [Reps] at h
    obtain ⟨v, r, rfl, h1, h2⟩ := h
    simp only [List.take_succ_cons, Reps]
    exact ⟨_, _, rfl, h1, Reps.take i h2⟩
theorem Reps.drop : ∀ {ds : List D} {vs : List V} (i : Nat), Reps K al n U H ds vs → Reps K al n U H (ds.drop i) (vs.drop i)
  | _, _, 0, h => by simpa using h
  | [], _, _ + 1, h => by simp only [Reps] at h; subst h; simp [Reps]
  | _ :: _, _, i + 1, h => by
    simp only [Reps] at h
    obtain ⟨v, r, rfl, h1, h2⟩ := h
    simp only [List.drop_succ_cons]
    exact Reps.drop i h2
theorem Reps.erase : ∀ {ds : List D} {vs : List V} (i : Nat), Reps K al n U H ds vs → Reps K al n U H (ds.eraseIdx i) (vs.eraseIdx i)
  | [], _, _, h => by simp only [Reps] at h; subst h; simp [Reps]
  | _ :: _, _, 0, h => by
    simp only [Reps] at h
    obtain ⟨v, r, rfl, h1, h2⟩ := h
    simpa using h2
  | _ :: _, _, i + 1, h => by
    simp only [Reps] at h
    obtain ⟨v, r, rfl, h1, h2⟩ := h
    simp only [List.eraseIdx_cons_succ, Reps]
    exact ⟨_, _, rfl, h1, Reps.erase i h2⟩
theorem Reps.cut {ds : List D} {vs : List V} (h : Reps K al n U H ds vs) (lo hi : Option Int) : Reps K al n U H (cut ds lo hi) (cutV vs lo hi) := by
  unfold Z.cut cutV
  rw [h.length]
  exact (h.drop _).take _

theorem Reps.rep {ds : List D} {vs : List V} (h : Reps K al n U H ds vs) : ∀ k : Nat, Reps K al n U H (List.replicate k ds).flatten (List.replicate k vs).flatten
  | 0 => by simp [Reps]
  | k + 1 => by
    rw [List.replicate_succ, List.replicate_succ, List.flatten_cons, List.flatten_cons]
    exact h.append (Reps.rep h k)
/-- an entry list of a dict -/
def keyD : D → Option Key
  | .int i => some (.inl i)
  | .str s => some (.inr (toS s))
  | _ => none
/-- a dict whose keys are tuples: what its one object holds -/
def ndP (w : World) (a : Addr) (xs : List (NestedKey × Addr × Value)) : Heap → Prop := fun h => ∃ o es ep, h.get? a = some o ∧ o.ExactDict ∧ o.data = .dict es ep ∧ es.toList = xs.map fun x => (⟨x.1.hash w, .ref x.2.1, x.2.2⟩ : DictEntry)
structure NdOk (a : Addr) (ks : List D) (bs us : List V) (xs : List (NestedKey × Addr × Value)) : Prop where
  sys : (a == sysModules) = false
  len : ks.length ≤ sizeLine
  nod : (xs.map (·.1)).Nodup
  key : ks.map keyN = xs.map fun x => some x.1
  ref : bs = xs.map fun x => V.ref x.2.1
  val : Vals us (xs.map (·.2.2))
def ObjRep (K : KW) (al : Nat → Addr) (n : Nat) (U : List Addr) (H : Hp) (a : Addr) : O → Prop
  | .lst ds => ∃ vs, H a = some (.lst vs) ∧ ds.length ≤ sizeLine ∧ Reps K al n U H ds vs
  | .dct ks vs => ∃ kvs : List (Key × V), H a = some (.dK kvs) ∧ ks.length ≤ sizeLine ∧ ks.map keyD = kvs.map (fun p => some p.1) ∧ Reps K al n U H vs (kvs.map (·.2)) ∧ (kvs.map (·.1)).Nodup ∧ ∀ s, D.str s ∈ ks → s.length ≤ sizeLine
  | .dcn ks vs => ∃ xs bs us, H a = some (.ext (ndP K.w a xs)) ∧ NdOk a ks bs us xs ∧ Reps K al n U H ks bs ∧ Reps K al n U H vs us
  | .ins c fs => ∃ C dx us, PySem.W.nsIn K.K mainGlobals c = some (some (.ref C)) ∧ H a = some (.ins C dx us) ∧ us.map (·.1) = fs.map (·.1) ∧ Reps K al n U H (fs.map (·.2)) (us.map (·.2))

theorem ObjRep.some {a : Addr} {o : O} (h : ObjRep K al n U H a o) : H a ≠ none := by
  intro e
  cases o with
  | lst ds => obtain ⟨_, q, _⟩ := h; rw [e] at q; cases q
  | dct ks vs => obtain ⟨_, q, _⟩ := h; rw [e] at q; cases q
  | dcn ks vs => obtain ⟨_, _, _, q, _⟩ := h; rw [e] at q; cases q
  | ins c fs => obtain ⟨_, _, _, _, q, _⟩ := h; rw [e] at q; cases q
theorem ObjRep.nxt {a : Addr} {o : O} (h : ObjRep K al n U H a o) (g : Nxt al n H al' n' H') (e : H' a = H a) : ObjRep K al' n' U H' a o := by
  cases o with
  | lst ds => obtain ⟨vs, q, l, r⟩ := h; exact ⟨vs, e.trans q, l, Reps.nxt g _ _ r⟩
  | dct ks vs => obtain ⟨kvs, q, l, r, s, t, w⟩ := h; exact ⟨kvs, e.trans q, l, r, Reps.nxt g _ _ s, t, w⟩
  | dcn ks vs => obtain ⟨xs, bs, us, q, l, r, s⟩ := h; exact ⟨xs, bs, us, e.trans q, l, Reps.nxt g _ _ r, Reps.nxt g _ _ s⟩
  | ins c fs => obtain ⟨C, dx, us, h1, q, l, r⟩ := h; exact ⟨C, dx, us, h1, e.trans q, l, Reps.nxt g _ _ r⟩

structure SR (K : KW) (al : Nat → Addr) (U : List Addr) (S : Store) (H : Hp) : Prop where
  inj : ∀ i j, i < S.length → j < S.length → al i = al j → i = j
  off : ∀ i, i < S.length → al i ∉ U
  liv : ∀ a ∈ U, H a ≠ none
  obj : ∀ i o, S[i]? = some o → ObjRep K al S.length U H (al i) o
variable {S S' S2 : Store}
theorem SR.at_ (h : SR K al U S H) {i : Nat} (hi : i < S.length) : H (al i) ≠ none := by
  have e : S[i]? = some S[i] := by simp [hi]
  exact (h.obj i _ e).some
theorem SR.trans (h : SR K al' U S' H') (g : Nxt al n H al' S'.length H') (g2 : Nxt al' S'.length H' al2 n2 H2) : Nxt al n H al2 n2 H2 :=
  g.trans g2 fun i hi _ => h.at_ (Nat.lt_of_lt_of_le hi g.le)
theorem SR.free (h : SR K al U S H) (hp : H p = none) : Off al S.length U p := by
  refine ⟨fun i hi e => h.at_ hi (by rw [← e]; exact hp), fun hu => h.liv p hu hp⟩
/-- a new object that never changes -/
theorem SR.lay (h : SR K al U S H) (hp : H p = none) (o : HO) : Nxt al S.length H al S.length (upd H p o) ∧ SR K al U S (upd H p o) := by
  have nx : Nxt al S.length H al S.length (upd H p o) := by
    refine ⟨fun a ob e z => ?_, Nat.le_refl _, fun _ _ => rfl, fun i h1 h2 => absurd h2 (Nat.not_lt.mpr h1)⟩
    rw [upd_ne (ne_of_none e hp)]
    exact e
  refine ⟨nx, h.inj, h.off, fun a ha e => ?_, fun i ob e => ?_⟩
  · refine h.liv a ha ?_
    by_cases q : a = p
    · subst q; rw [upd_same] at e; cases e
    · rw [upd_ne q] at e; exact e
  · refine (h.obj i ob e).nxt nx (upd_ne ?_)
    intro q
    exact (h.obj i ob e).some (by rw [q]; exact hp)
/-- the same heap, another reading of it -/
def ext1 (al : Nat → Addr) (n : Nat) (p : Addr) : Nat → Addr := fun i => if i = n then p else al i
/-- a new object that changes -/
theorem SR.make (h : SR K al U S H) (hp : H p = none) {ho : HO} {o : O} (hr : ∀ g : Nxt al S.length H (ext1 al S.length p) (S.length + 1) (upd H p ho), ObjRep K (ext1 al S.length p) (S.length + 1) U (upd H p ho) p o) :
    Nxt al S.length H (ext1 al S.length p) (S ++ [o]).length (upd H p ho) ∧ SR K (ext1 al S.length p) U (S ++ [o]) (upd H p ho) ∧ ext1 al S.length p S.length = p := by
  have hl : (S ++ [o]).length = S.length + 1 := by simp
  have e1 : ext1 al S.length p S.length = p := if_pos rfl
  have e2 : ∀ i, i < S.length → ext1 al S.length p i = al i := fun i hi => if_neg (by omega)
  have nx : Nxt al S.length H (ext1 al S.length p) (S.length + 1) (upd H p ho) := by
    refine ⟨fun a ob e z => ?_, by omega, e2, fun i h1 h2 => ?_⟩
    · rw [upd_ne (ne_of_none e hp)]
      exact e
    · have : i = S.length := by omega
      subst this
      rw [e1]
      exact hp
  rw [hl]
  refine ⟨nx, ⟨fun i j hi hj e => ?_, fun i hi => ?_, fun a ha e => ?_, fun i ob e => ?_⟩, e1⟩
  · rw [hl] at hi hj
    by_cases h1 : i < S.length <;> by_cases h2 : j < S.length
    · rw [e2 i h1, e2 j h2] at e; exact h.inj i j h1 h2 e
    · have : j = S.length := by omega
      subst this
      rw [e2 i h1, e1] at e
      exact absurd (show H (al i) = none by rw [e]; exact hp) (h.at_ h1)
    · have : i = S.length := by omega
      subst this
      rw [e2 j h2, e1] at e
      exact absurd (show H (al j) = none by rw [← e]; exact hp) (h.at_ h2)
    · omega
  · rw [hl] at hi
    by_cases h1 : i < S.length
    · rw [e2 i h1]; exact h.off i h1
    · have : i = S.length := by omega
      subst this
      rw [e1]
      exact fun hu => h.liv p hu hp
  · refine h.liv a ha ?_
    by_cases q : a = p
    · subst q; rw [upd_same] at e; cases e
    · rw [upd_ne q] at e; exact e
  · by_cases h1 : i < S.length
    · rw [List.getElem?_append_left h1] at e
      rw [e2 i h1, hl]
      refine (h.obj i ob e).nxt nx (upd_ne ?_)
      intro q
      exact h.at_ h1 (by rw [q]; exact hp)
    · have hi : i = S.length := by
        have := List.getElem?_eq_some_iff.mp e
        obtain ⟨q, _⟩ := this
        rw [hl] at q
        omega
      subst hi
      rw [List.getElem?_append_right (Nat.le_refl _)] at e
      simp at e
      subst e
      rw [e1, hl]
      exact hr nx
/-- a changing object is changed -/
theorem SR.put (h : SR K al U S H) {m : Nat} (hm : m < S.length) {ho : HO} {o : O} (hr : ∀ g : Nxt al S.length H al S.length (upd H (al m) ho), ObjRep K al S.length U (upd H (al m) ho) (al m) o) :
    Nxt al S.length H al (S.set m o).length (upd H (al m) ho) ∧ SR K al U (S.set m o) (upd H (al m) ho) := by
  have hl : (S.set m o).length = S.length := by simp
  have nx : Nxt al S.length H al S.length (upd H (al m) ho) := by
    refine ⟨fun a ob e z => ?_, Nat.le_refl _, fun _ _ => rfl, fun i h1 h2 => absurd h2 (Nat.not_lt.mpr h1)⟩
    rw [upd_ne (z m hm)]
    exact e
  rw [hl]
  refine ⟨nx, fun i j hi hj => by rw [hl] at hi hj; exact h.inj i j hi hj, fun i hi => by rw [hl] at hi; exact h.off i hi, fun a ha e => ?_, fun i ob e => ?_⟩
  · refine h.liv a ha ?_
    by_cases q : a = al m
    · subst q; rw [upd_same] at e; cases e
    · rw [upd_ne q] at e; exact e
  · rw [hl]
    by_cases hi : i = m
    · subst hi
      rw [List.getElem?_set_self hm] at e
      cases e
      exact hr nx
    · rw [List.getElem?_set_ne (Ne.symm hi)] at e
      have hil : i < S.length := by
        obtain ⟨q, _⟩ := List.getElem?_eq_some_iff.mp e
        exact q
      refine (h.obj i ob e).nxt nx (upd_ne ?_)
      intro q
      exact hi (h.inj i m hil hm q)
/-- more addresses that may change -/
theorem SR.more (h : SR K al U S H) (hp : H p = none) (ho : HO) (hU : ∀ i, i < S.length → p ≠ al i := (h.free hp).1) : True := trivial

def ER (K : KW) (al : Nat → Addr) (n : Nat) (U : List Addr) (H : Hp) (rho : Env) (si : List (Option V)) : Prop :=
  rho.length = si.length ∧ ∀ (i : Nat) (d : D), rho[i]? = some (some d) → ∃ v, si[i]? = some (some v) ∧ Rep K al n U H d v
theorem ER.nxt {rho : Env} {si : List (Option V)} (h : ER K al n U H rho si) (g : Nxt al n H al' n' H') : ER K al' n' U H' rho si :=
  ⟨h.1, fun i d e => let ⟨v, e1, r⟩ := h.2 i d e; ⟨v, e1, Rep.nxt g d v r⟩⟩
theorem ER.set {rho : Env} {si : List (Option V)} (h : ER K al n U H rho si) {d : D} {v : V} (r : Rep K al n U H d v) (i : Nat) : ER K al n U H (rho.set i (some d)) (si.set i (some v)) := by
  refine ⟨by simp [h.1], fun j e hj => ?_⟩
  by_cases q : i = j
  · subst q
    by_cases hi : i < rho.length
    · rw [List.getElem?_set_self hi] at hj
      cases hj
      exact ⟨v, by rw [List.getElem?_set_self (by rw [← h.1]; exact hi)], r⟩
    · rw [List.getElem?_eq_none (by simpa using hi)] at hj
      cases hj
  · rw [List.getElem?_set_ne q] at hj ⊢
    exact h.2 j e hj
theorem ER.wipe {rho : Env} {si : List (Option V)} (h : ER K al n U H rho si) : ∀ vs : List Nat, ER K al n U H (wipeE rho vs) (L2.wipe si vs)
  | [] => h
  | i :: vs => by
    have ih := ER.wipe h vs
    unfold wipeE L2.wipe
    refine ⟨by simp [ih.1], fun j e hj => ?_⟩
    by_cases q : i = j
    · subst q
      by_cases hi : i < (wipeE rho vs).length
      · rw [List.getElem?_set_self hi] at hj
        cases hj
      · rw [List.getElem?_eq_none (by simpa using hi)] at hj
        cases hj
    · rw [List.getElem?_set_ne q] at hj ⊢
      exact ih.2 j e hj
end
end Z

set_option Elab.async false
set_option linter.all false
set_option maxRecDepth 100000
set_option maxHeartbeats 4000000
/-! Ext1: a dict beside a text, a list times a number, sorted of a tuple. -/
namespace Z
open PySem L2 PySem.Spec PyProof.Rows
theorem dict_ne_s (l : Addr) (es : Array DictEntry) (ep : Nat) (c : Str) (u : Tok) :
    Meets (Builtin.«dict.__ne__» ⟨[.ref l, .str c u], []⟩) (fun _ R s => s.heap.get? l = some { cls := .type "dict", dict := none, data := .dict es ep, slots := #[] } ∧ R (.ok (.ret .notImplemented)) s) :=
  .of_wp fun prog w A R s h => by
    obtain ⟨hp, g, d, tk, os⟩ := s
    obtain ⟨hl, h⟩ := h
    have f1 := PySem.F.sub_str_dict
    wp_walk using wpAny_loadPart' hl, wpAny_load hl
    exact ⟨_, rfl, h⟩
theorem str_ne_d (l : Addr) (es : Array DictEntry) (ep : Nat) (c : Str) (u : Tok) :
    Meets (Builtin.«str.__ne__» ⟨[.str c u, .ref l], []⟩) (fun _ R s => s.heap.get? l = some { cls := .type "dict", dict := none, data := .dict es ep, slots := #[] } ∧ R (.ok (.ret .notImplemented)) s) :=
  .of_wp fun prog w A R s h => by
    obtain ⟨hp, g, d, tk, os⟩ := s
    obtain ⟨hl, h⟩ := h
    wp_walk using wpAny_loadPart' hl, wpAny_load hl
    exact ⟨_, rfl, h⟩
theorem rc_dict_s {A : Around} {s : Shared} {l : Addr} {es : Array DictEntry} {ep : Nat} (c : Str) (u : Tok) (ho : s.heap.get? l = some { cls := .type "dict", dict := none, data := .dict es ep, slots := #[] }) (hu : A.units < cLine) : SeqAt.RcNeAt A s (.ref l) (.str c u) true := fun prog w E Q h =>
  SeqAt.rc_ne_decline_or (k := false) ⟨_, ho, rfl⟩ (typeIs_str s c u) (by decide) PySem.F.sub_str_dict PySem.F.slot_dict_ne PySem.F.slot_str_ne_refl
    (fun _ hq => call_meets PySem.F.slot_dict_ne ⟨_, ho, rfl⟩ PySem.F.entry_dict_ne (PySem.F.args_dict_ne_2 _ _) (dict_ne_s l es ep c u) ⟨ho, hq⟩)
    (fun _ hq => call_meets PySem.F.slot_str_ne_refl (typeIs_str s c u) PySem.F.entry_str_ne (PySem.F.args_str_ne_2 _ _) (str_ne_d l es ep c u) ⟨ho, hq⟩)
    (fun _ hq => wpAny_of_eq (rfl : isSame (.ref l) (.str c u) = pure false) hq) (.inr hu) h
theorem list_mulW (l : Addr) (items : Array Value) (n : Nat) (dd : Option Addr) (sl : Array (Option Value)) (x : Int) (u : Tok) (c0 : ¬(!Builtin.List.listFitsIndex x) = true) (c1 : ¬items.size * x.toNat > (2 ^ 63 - 1) / 8) (c2 : ¬Builtin.List.listTooLong (items.size * x.toNat) = true) :
    Meets (Builtin.«list.__mul__» ⟨[.ref l, .int x u], []⟩) (fun _ R s => s.heap.get? l = some { cls := .type "list", dict := dd, data := .seq items n, slots := sl } ∧ R (.ok (.ret (Value.ref s.heap.objs.size))) { s with heap := s.heap.push { cls := Value.type "list", data := Data.seq (List.foldl (fun x1 x2 => x1 ++ x2) #[] (List.replicate (if items.isEmpty = true then 0 else x.toNat) items)) } }) :=
  .of_wp fun prog w A R s h => by
    obtain ⟨hp, g, d, tk, os⟩ := s
    obtain ⟨hl, h⟩ := h
    have hsz := AutoListH.joined_fits c2
    wp_walk using wpAny_loadPart' hl
    refine wpAny_ite_false (decide_eq_false (Nat.not_lt.mpr hsz)) ?_
    wp_walk
    exact ⟨_, rfl, h⟩
theorem int_rmulW (a : Int) (t : Tok) (l : Addr) (items : Array Value) (n : Nat) (dd : Option Addr) (sl : Array (Option Value)) :
    Meets (Builtin.«int.__rmul__» ⟨[.int a t, .ref l], []⟩) (fun _ R s => s.heap.get? l = some { cls := .type "list", dict := dd, data := .seq items n, slots := sl } ∧ R (.ok (.ret Value.notImplemented)) s) :=
  .of_wp fun prog w A R s h => by obtain ⟨hp, g, d, tk, os⟩ := s; obtain ⟨hl, h⟩ := h; wp_walk using wpAny_loadPart' hl; exact ⟨_, rfl, h⟩
section
variable {X : Cx}
theorem op_mulL : OpR X (binaryOp .Mult) (fun x y H Q => ∃ (l : Addr) (j : Int) (xs : List V), x = .ref l ∧ y = .int j ∧ SqL X.kw H l xs ∧ 0 ≤ j ∧ j < 2 ^ 63 ∧ xs.length * j.toNat ≤ sizeLine ∧ ∀ p, H p = none → Q (.ref p) (upd H p (.lst (List.replicate j.toNat xs).flatten))) := by
  intro pins s σ H x y v u Q I rx ry ⟨l, j, xs, ex, ey, hL, h1, h2, hz, q⟩
  subst ex ey
  cases rx
  obtain ⟨t, rfl⟩ := ry
  obtain ⟨its, r, ⟨⟨cls, dd, data, sl⟩, n, ho, hc, hd0, hd⟩, z⟩ := I.list hL
  simp only at hc hd0 hd
  subst hc hd0 hd
  have hle := r.length
  have ez : its.toArray.size * j.toNat ≤ sizeLine := by rw [List.size_toArray, ← hle]; exact hz
  have c1 : ¬ its.toArray.size * j.toNat > (2 ^ 63 - 1) / 8 := by
    have a1 : sizeLine ≤ (2 ^ 63 - 1) / 8 := by decide
    omega
  have c2 : ¬ (!Builtin.List.listFitsIndex j) = true := by
    rw [fitsIndex_both (by omega) h2]
    exact Bool.false_ne_true
  have c3 : ¬ Builtin.List.listTooLong (its.toArray.size * j.toNat) = true := by
    rw [notLongL ez]
    exact Bool.false_ne_true
  have eN : List.foldl (fun x1 x2 => x1 ++ x2) #[] (List.replicate (if its.toArray.isEmpty = true then 0 else j.toNat) its.toArray) = (List.replicate j.toNat its).flatten.toArray := by
    have f0 : ∀ m : Nat, List.foldl (fun x1 x2 => x1 ++ x2) #[] (List.replicate m its.toArray) = (List.replicate m its).flatten.toArray := fun m => by
      have := foldl_rep its m []
      simpa using this
    rw [f0]
    cases its with
    | nil => simp
    | cons a r' => rw [if_neg (by simp)]
  have inner := list_mulW l its.toArray n none sl j t c2 c1 c3
  refine wpAny_binaryOp_repeat_ref (T := "list") (U := "int") (by decide) ⟨_, ho, rfl⟩ (fun s' => typeIs_int s' j t) noFill_list_mul PySem.F.fills_int_mul PySem.F.slot_int_rmul repeat_list PySem.F.slot_int_index.lookup (call_meets PySem.F.slot_int_rmul (typeIs_int s j t) PySem.F.entry_int_rmul (PySem.F.args_int_rmul_2 _ _) (int_rmulW j t l its.toArray n none sl) ⟨ho, rfl, ⟨_, ho, rfl⟩, ?_⟩)
  refine call_meets PySem.F.slot_list_mul ⟨_, ho, rfl⟩ PySem.F.entry_list_mul (PySem.F.args_list_mul_2 _ _) inner ⟨ho, ?_⟩
  rw [eN]
  exact ⟨.ref _, _, I.lnew (t' := s.toks) (r.rep j.toNat) (by rw [PyProof.Rows.lm_len_rep_flat, Nat.mul_comm]; exact hz), rfl, q _ I.fresh⟩
end
end Z
namespace Z
open PySem L2 PySem.Spec PyProof.Rows PySem.W
section
variable {prog : Program} {w : World} {A : Around} {E : Value → Shared → Prop} {s : Shared}
theorem gather_tup {l : Addr} {vs : List Value} {o : Obj} {n : Nat} {Q : List Value → Shared → Prop} (ho : s.heap.get? l = some o) (hc : o.cls = .type "tuple") (hd : o.data = .seq vs.toArray n) (hz : vs.length ≤ sizeLine)
    (h : Q vs { s with heap := (s.heap.push (seqObj "list" #[] 0)).update s.heap.objs.size (Obj.mapSeq (· ++ vs.toArray)) }) : wpAny (model prog w) A (collect (.ref l)) Q E s := by
  unfold collect
  refine wpAny_bind (wpAny_runValue (codeAny_builtin entry_proto_collect' ?c1))
  case c1 =>
    show wpAny _ _ (do again (.builtin "list.__iadd__" ⟨[← newList [], .ref l], []⟩)) _ _ s
    refine wpAny_bind (wpAny_newList (wpAny_pure ⟨Code.quiet_builtin _ (by decide +kernel), codeAny_builtin entry_list_iadd' ?c2⟩))
    case c2 =>
      show wpAny _ _ (Builtin.List.listExtendWith (.ref s.heap.objs.size) (.ref l) (.ref s.heap.objs.size)) _ _ { s with heap := s.heap.push (seqObj "list" #[] 0) }
      unfold Builtin.List.listExtendWith
      have g1 : (s.heap.push (seqObj "list" #[] 0)).get? l = some o := Heap.get?_push_of_some _ ho
      have g2 : (s.heap.push (seqObj "list" #[] 0)).get? s.heap.objs.size = some (seqObj "list" #[] 0) := Heap.get?_push_size _ rfl
      refine wpAny_bind (wpAny_typeOf (T := "tuple") ⟨o, g1, hc⟩ ?c3)
      case c3 =>
        have tt : (Value.type "tuple" == Value.type "tuple") = true := rfl
        rw [if_pos (by rw [tt, Bool.or_true])]
        refine wpAny_bind (listItems_at g1 hd (wpAny_bind (listItems_at (xs := #[]) (n := 0) g2 rfl ?c4)))
        case c4 =>
          rw [if_neg (by simp)]
          refine wpAny_bind (listUpdate_at (xs := #[]) (n := 0) g2 rfl (wpAny_pure ?c5) (Nat.zero_le _) (by show (#[] ++ vs.toArray).size ≤ _; simp; omega))
          case c5 =>
            show wpAny (model prog w) A (do
                let ob ← load s.heap.objs.size
                match ob.data with
                | .seq zs _ => pure zs.toList
                | _ => unsupported "internal:collect") Q E { s with heap := (s.heap.push (seqObj "list" #[] 0)).update s.heap.objs.size (Obj.mapSeq (· ++ vs.toArray)) }
            refine wpAny_bind (wpAny_load (get?_update_seq g2 _) ?c6)
            case c6 =>
              show wpAny _ _ (pure ((#[] : Array Value) ++ vs.toArray).toList) Q E _
              have e0 : ((#[] : Array Value) ++ vs.toArray).toList = vs := by simp
              rw [e0]
              exact wpAny_pure h
theorem sort_tup {l : Addr} {vs : List Value} {o : Obj} {n : Nat} {Q : Value → Shared → Prop} (ho : s.heap.get? l = some o) (hc : o.cls = .type "tuple") (hd : o.data = .seq vs.toArray n) (hz : vs.length ≤ sizeLine)
    (body : ∀ E' : Value → Shared → Prop, wpAny (model prog w) A.in1.in1 (Builtin.«list.sort» ⟨[.ref (s.heap.objs.size + 1)], []⟩) (fun f s' => f = .done (.ret .none) ∧ Q (.ref (s.heap.objs.size + 1)) s') E' { s with heap := copyHeap s.heap vs }) :
    wpAny (model prog w) A (call (.builtin "sorted") [.ref l]) Q E s := by
  refine call_function_entry_kw kind_sorted plain_sorted entry_sorted (args_sorted1 _) ?c1
  case c1 =>
    unfold Builtin.«sorted»
    refine wpAny_bind (m := checkCount "sorted" 1 1 _) (wpAny_pure (wpAny_bind (gather_tup ho hc hd hz (wpAny_bind (wpAny_newList ?c2 hz)))))
    case c2 =>
      have e1 : ((s.heap.push (seqObj "list" #[] 0)).update s.heap.objs.size (Obj.mapSeq (· ++ vs.toArray))).objs.size = s.heap.objs.size + 1 := by
        rw [Heap.size_update]
        exact size_push' ..
      show wpAny _ _ _ _ _ { s with heap := copyHeap s.heap vs }
      rw [e1]
      refine wpAny_bind (wpAny_holding (wpAny_call_entry_kw slot_list_sort ⟨_, copyHeap_at s.heap vs, rfl⟩ entry_list_sort ?c3 (args_list_sort _)))
      case c3 =>
        refine wpAny_mono (body _) (fun f s' ⟨e2, q⟩ => ?_) fun _ _ e => e
        subst e2
        exact ⟨_, rfl, wpAny_pure ⟨_, rfl, q⟩⟩
theorem sort_tup_data {B : Type} {vs : List Value} {bs : List B} {enc : B → PyData} {R : Value → B → Prop} {l : Addr} {o : Obj} {n : Nat} {Q : Value → Shared → Prop} (ho : s.heap.get? l = some o) (hc : o.cls = .type "tuple") (hd : o.data = .seq vs.toArray n) (e : EachIs R vs bs)
    (er : EachIs (fun v b => ∃ as, Reads s.heap v (enc b) as) vs bs) (hal : AllAlike (bs.map enc)) (hk : Sortable (bs.map enc)) (hL : bs.length ≤ sizeLine)
    (hu : ∀ b, b ∈ bs → A.units + 2 + (enc b).depth < cLine) (h : ∀ out, out.length = bs.length → EachIs R out (bs.mergeSort (dataLe false enc)) → Q (.ref (s.heap.objs.size + 1)) { s with heap := sortedAll s.heap vs (List.toArray out) }) :
    wpAny (model prog w) A (call (.builtin "sorted") [.ref l]) Q E s := by
  have er2 : EachIs (fun v b => ∃ as, Reads (sortingHeap (copyHeap s.heap vs) (s.heap.objs.size + 1) vs) v (enc b) as) vs bs :=
    er.mono fun _ _ ⟨as, r⟩ => ⟨as, PyProof.Rows.Reads.keeps (fun _ _ => sorting_copy_old) r⟩
  have hv : vs.length ≤ sizeLine := by rw [e.length]; exact hL
  have st := SortsAt.data (prog := prog) (w := w) (A := A.in1.in1) (s := { s with heap := sortingHeap (copyHeap s.heap vs) (s.heap.objs.size + 1) vs }) (each_map (R := fun v d => ∃ as, Reads (sortingHeap (copyHeap s.heap vs) (s.heap.objs.size + 1) vs) v d as) enc er2) hal hk (bound_map hu)
  refine sort_tup ho hc hd hv fun _ => list_sort_vals (s := { s with heap := copyHeap s.heap vs }) (copyHeap_at s.heap vs) st hv ⟨rfl, h _ ?_ (sortVals_data false e er2 hal)⟩
  rw [sortVals_length false rfl]
  exact e.length
end
end Z

set_option Elab.async false
set_option linter.all false
set_option maxRecDepth 100000
set_option maxHeartbeats 4000000
/-! Ops: operators by values. -/
namespace Z
open PySem L2 PySem.Spec PyProof.Rows

def tOpD (K : KW) (g : D → D → Store → R (D × Store)) : R2 := fun x y H Q => ∃ al U S a b d S',
  SR K al U S H ∧ Rep K al S.length U H a x ∧ Rep K al S.length U H b y ∧ g a b S = .ok (d, S') ∧
  ∀ v H' al', Nxt al S.length H al' S'.length H' → SR K al' U S' H' → Rep K al' S'.length U H' d v → Q v H'

def opA : Op → Operator
  | .add => .Add | .sub => .Sub | .mul => .Mult | .mod => .Mod | .pow => .Pow | .fdiv => .FloorDiv | .band => .BitAnd | .shr => .RShift | .shl => .LShift | .addm => .Add | .mulm => .Mult

theorem toS_app (x y : List Char) : toS x ++ toS y = toS (x ++ y) := by
  show (⟨(x.map Char.toNat).toArray ++ (y.map Char.toNat).toArray⟩ : Str) = ⟨((x ++ y).map Char.toNat).toArray⟩
  simp
theorem tuple_mul1 (l : Addr) (items : Array Value) (n : Nat) (dd : Option Addr) (sl : Array (Option Value)) (x : Int) (u : Tok) (c0 : (decide (x < -(2 ^ 63)) || decide (x ≥ 2 ^ 63)) = false) (c1 : (items.isEmpty || x == 1) = true) :
    Meets (Builtin.«tuple.__mul__» ⟨[.ref l, .int x u], []⟩) (fun _ R s => s.heap.get? l = some { cls := .type "tuple", dict := dd, data := .seq items n, slots := sl } ∧ R (.ok (.ret (.ref l))) s) :=
  .of_wp fun prog w A R s h => by
    obtain ⟨hp, g, d, tk, os⟩ := s
    obtain ⟨hl, h⟩ := h
    have f1 := AutoSeq1.idx_int
    wp_walk using wpAny_loadPart' hl
    repeat (first
      | (refine wpAny_ite_false (decide_eq_false (by rw [c0]; exact Bool.false_ne_true)) ?_; wp_walk using wpAny_loadPart' hl)
      | (refine wpAny_ite_true (decide_eq_true (by rw [c1])) ?_; wp_walk using wpAny_loadPart' hl))
    exact ⟨_, rfl, h⟩
theorem tuple_mul0 (l : Addr) (items : Array Value) (n : Nat) (dd : Option Addr) (sl : Array (Option Value)) (x : Int) (u : Tok) (c0 : (decide (x < -(2 ^ 63)) || decide (x ≥ 2 ^ 63)) = false) (c1 : (items.isEmpty || x == 1) = false) (c2 : (decide (x ≤ 0) || items.isEmpty) = true) :
    Meets (Builtin.«tuple.__mul__» ⟨[.ref l, .int x u], []⟩) (fun _ R s => s.heap.get? l = some { cls := .type "tuple", dict := dd, data := .seq items n, slots := sl } ∧ R (.ok (.ret (Value.ref s.heap.objs.size))) { s with heap := s.heap.push { cls := Value.type "tuple", data := Data.seq #[] }, toks := s.toks }) :=
  .of_wp fun prog w A R s h => by
    obtain ⟨hp, g, d, tk, os⟩ := s
    obtain ⟨hl, h⟩ := h
    have f1 := AutoSeq1.idx_int
    wp_walk using wpAny_loadPart' hl
    repeat (first
      | (refine wpAny_ite_false (decide_eq_false (by rw [c0]; exact Bool.false_ne_true)) ?_; wp_walk using wpAny_loadPart' hl)
      | (refine wpAny_ite_false (decide_eq_false (by rw [c1]; exact Bool.false_ne_true)) ?_; wp_walk using wpAny_loadPart' hl)
      | (refine wpAny_ite_true (decide_eq_true (by rw [c2])) ?_; wp_walk using wpAny_loadPart' hl))
    exact ⟨_, rfl, h⟩
section
variable {X : Cx}
theorem mulOk {i j : Int} (h : i.natAbs.log2 + j.natAbs.log2 < 100000000) : IntMulOk i j := by
  have b : ∀ x : Int, Builtin.Int.intBits x ≤ x.natAbs.log2 + 1 := fun x => by
    unfold Builtin.Int.intBits
    split <;> omega
  have h1 := b i
  have h2 := b j
  have e : bitsLine = 134217728 := by decide
  unfold IntMulOk
  intro z
  rw [Bool.and_eq_true] at z
  have z2 := z.2
  unfold Builtin.Int.intTooBig at z2
  have z3 := of_decide_eq_true z2
  rw [e] at z3
  omega
theorem Rep.tup_new {K : KW} {al : Nat → Addr} {U : List Addr} {S : Store} {H : Hp} {p : Addr} {o : Obj} {ds : List D} {vs : List V} (sr : SR K al U S H) (hp : H p = none) (ho : o.dict = none) (hl : ds.length ≤ sizeLine)
    (r : Reps K al S.length U (upd H p (.frz o (.tup vs))) ds vs) : Rep K al S.length U (upd H p (.frz o (.tup vs))) (.tup ds) (.ref p) := by
  simp only [Rep]
  exact ⟨p, vs, rfl, .inl ⟨⟨o, upd_same, ho⟩, sr.free hp⟩, hl, r⟩
/-- what is laid where a tuple is made -/
def NewT (H : Hp) (vs : List V) (Q : VK) : Prop := ∀ (p : Addr) (o : Obj), H p = none → o.dict = none → Q (.ref p) (upd H p (.frz o (.tup vs)))
theorem lay_tup {X : Cx} {pins : List (Addr × Obj)} {σ : L2.St} {H : Hp} {s : Shared} {vs : List V} {its : List Value} {Q : VK} (I : Inv X pins σ H s) (r : Vals vs its) (hz : vs.length ≤ sizeLine) (q : NewT H vs Q) :
    EP X pins σ Q (.ref s.heap.objs.size) { s with heap := s.heap.push { cls := .type "tuple", data := .seq its.toArray } } :=
  ⟨.ref s.heap.objs.size, _, I.laid (t' := s.toks) (o := .frz { cls := .type "tuple", data := .seq its.toArray } (.tup vs)) (fun _ _ e => Heap.get?_push_of_some _ e) (Nat.le_refl _) ⟨Heap.get?_push_size _ rfl, hz, its, r, IsTup.new _ _⟩, rfl, q _ _ (I.hok.fresh (Nat.le_refl _)) rfl⟩
theorem Rep.lst_new {K : KW} {al : Nat → Addr} {U : List Addr} {S : Store} {H : Hp} {p : Addr} {ds : List D} {vs : List V} (sr : SR K al U S H) (hp : H p = none) (hl : ds.length ≤ sizeLine)
    (r : Reps K al S.length U (upd H p (.lst vs)) ds vs) : Rep K al S.length U (upd H p (.lst vs)) (.lst ds) (.ref p) := by
  simp only [Rep]
  exact ⟨p, vs, rfl, .inl ⟨.inl upd_same, sr.free hp⟩, hl, r⟩
/-- what is wanted of a new tuple -/
theorem new_tup {K : KW} {al : Nat → Addr} {U : List Addr} {S : Store} {H : Hp} {ds : List D} {vs : List V} {Q : VK} (sr : SR K al U S H) (hl : ds.length ≤ sizeLine) (r : Reps K al S.length U H ds vs)
    (q : ∀ v H' al', Nxt al S.length H al' S.length H' → SR K al' U S H' → Rep K al' S.length U H' (.tup ds) v → Q v H') : NewT H vs Q := by
  intro p o hp ho
  obtain ⟨n1, s1⟩ := sr.lay hp (.frz o (.tup vs))
  exact q _ _ al n1 s1 (Rep.tup_new sr hp ho hl (Reps.nxt n1 _ _ r))
theorem new_lst {K : KW} {al : Nat → Addr} {U : List Addr} {S : Store} {H : Hp} {ds : List D} {vs : List V} {Q : VK} (sr : SR K al U S H) (hl : ds.length ≤ sizeLine) (r : Reps K al S.length U H ds vs)
    (q : ∀ v H' al', Nxt al S.length H al' S.length H' → SR K al' U S H' → Rep K al' S.length U H' (.lst ds) v → Q v H') : ∀ p, H p = none → Q (.ref p) (upd H p (.lst vs)) := by
  intro p hp
  obtain ⟨n1, s1⟩ := sr.lay hp (.lst vs)
  exact q _ _ al n1 s1 (Rep.lst_new sr hp hl (Reps.nxt n1 _ _ r))
/-- a new list: one of the store, or one that stays -/
theorem new_lit {K : KW} {al : Nat → Addr} {U : List Addr} {S S' : Store} {H : Hp} {m : Bool} {ds : List D} {d : D} {vs : List V} {Q : VK} (sr : SR K al U S H) (e : litD m ds S = .ok (d, S')) (hl : ds.length ≤ sizeLine) (r : Reps K al S.length U H ds vs)
    (q : ∀ v H' al', Nxt al S.length H al' S'.length H' → SR K al' U S' H' → Rep K al' S'.length U H' d v → Q v H') : ∀ p, H p = none → Q (.ref p) (upd H p (.lst vs)) := by
  unfold litD at e
  cases m with
  | false =>
    simp at e
    obtain ⟨rfl, rfl⟩ := e
    exact new_lst sr hl r q
  | true =>
    simp at e
    obtain ⟨rfl, rfl⟩ := e
    intro p hp
    obtain ⟨n1, s1, e1⟩ := sr.make (ho := .lst vs) (o := .lst ds) hp (fun g => ⟨vs, upd_same, hl, Reps.nxt g _ _ r⟩)
    refine q _ _ _ n1 s1 ?_
    simp only [Rep]
    exact ⟨by simp, by rw [e1]⟩

/-- tuple + tuple: one that is empty leaves the other one -/
theorem op_catTP : OpR X (binaryOp .Add) (fun x y H Q => ∃ a b xs ys, x = .ref a ∧ y = .ref b ∧ SqT X.kw H a xs ∧ SqT X.kw H b ys ∧ xs.length + ys.length ≤ sizeLine ∧
    (xs = [] → Q (.ref b) H) ∧ (ys = [] → Q (.ref a) H) ∧ NewT H (xs ++ ys) Q) := by
  intro pins s σ H x y v u Q I rx ry ⟨a, b, xs, ys, ex, ey, ha, hb, hz, q0, q1, q2⟩
  subst ex ey
  cases rx
  cases ry
  obtain ⟨its, r1, p1, _⟩ := I.tuple ha
  obtain ⟨js, r2, p2, _⟩ := I.tuple hb
  by_cases hx : its = []
  · subst hx
    have e0 : xs = [] := r1.nil_iff.mp rfl
    exact cat_tup0 p1 p2 ⟨.ref b, H, I, rfl, q0 e0⟩
  · exact HT.cat_tup p1 p2 hx (fun z => ⟨.ref a, H, I, rfl, q1 (r2.nil_iff.mp z)⟩) (fun _ => lay_tup I (r1.append r2) (by rw [List.length_append]; exact hz) q2) (by rw [← r1.length, ← r2.length]; exact hz)
/-- t[lo:hi] of a tuple -/
theorem sl_tupP : SlR X (fun x lo hi H Q => ∃ a xs, x = .ref a ∧ SqT X.kw H a xs ∧ (HT.sIx xs.length 0 lo = 0 ∧ HT.sIx xs.length xs.length hi = xs.length → Q (.ref a) H) ∧ NewT H (cutV xs lo hi) Q) := by
  intro pins s σ H x v vl vu lo hi sl Q I rx hs pl pu ⟨a, xs, ex, hx, q1, q2⟩
  subst ex
  cases rx
  obtain ⟨its, r, ht, hz⟩ := I.tuple hx
  have hn : its.toArray.size = xs.length := by rw [List.size_toArray]; exact r.length.symm
  refine ⟨"tuple", _, PyProof.Rows.slot_tuple_getitem.lookup, ht.typeIs, ?_⟩
  by_cases hw : HT.sIx xs.length 0 lo = 0 ∧ HT.sIx xs.length xs.length hi = xs.length
  · exact getItem_tuple_whole ht hs pl pu (by rw [hn]; exact hw) ⟨.ref a, H, I, rfl, q1 hw⟩
  · refine HT.getItem_tuple_cut ht hs pl pu (by rw [hn]; exact hw) ?_ (by rw [hn]; exact hz)
    rw [hn]
    exact lay_tup I ((r.drop _).take _) (Nat.le_trans (cutV_length xs lo hi) hz) q2
/-- text * number -/
theorem op_mulS : OpR X (binaryOp .Mult) (fun x y H Q => ∃ (z : List Char) (j : Int), x = .str (toS z) ∧ y = .int j ∧ 0 ≤ j ∧ j ≤ 1000 ∧ z.length ≤ 10000 ∧ Q (.str (toS (List.replicate j.toNat z).flatten)) H) := by
  intro pins s σ H x y v u Q I rx ry ⟨z, j, ex, ey, h1, h2, h3, q⟩
  subst ex ey
  obtain ⟨t, rfl⟩ := rx
  obtain ⟨t2, rfl⟩ := ry
  have hl : (toS z).length = z.length := toS_length z
  have hz : sizeLine = 16777216 := by decide
  have hm : z.length * j.toNat ≤ 10000 * 1000 := Nat.mul_le_mul h3 (by omega)
  have fr : ∀ m : Nat, (List.replicate m (toS z).cps).foldl (· ++ ·) #[] = (toS (List.replicate m z).flatten).cps := by
    intro m
    have g : ∀ (m : Nat) (acc : Array Nat), (List.replicate m (toS z).cps).foldl (· ++ ·) acc = acc ++ (toS (List.replicate m z).flatten).cps := by
      intro m
      induction m with
      | zero => intro acc; simp [toS]
      | succ m ih =>
        intro acc
        rw [List.replicate_succ, List.foldl_cons, ih, List.replicate_succ, List.flatten_cons, ← toS_app, Array.append_assoc]
        rfl
    rw [g m #[]]
    simp
  refine PySem.P.mul_str ?_ (fun _ _ => ?_) (fun _ _ => ?_) ?_
  · have e1 : ¬ j < -(2 ^ 63 : Int) := by omega
    have e2 : ¬ j ≥ 2 ^ 63 := by omega
    rw [decide_eq_false e1, decide_eq_false e2]
    rfl
  · rw [hl]
    rename_i hj _
    have hj' : 0 < j := by omega
    have e3 : (z.length : Int) ≤ (2 ^ 63 - 1) / j := by
      rw [Int.le_ediv_iff_mul_le hj']
      have : ((z.length : Int)) * j ≤ 10000 * 1000 := Int.mul_le_mul (by omega) h2 (by omega) (by omega)
      omega
    omega
  · rw [hl]
    unfold Builtin.Str.tooLong
    simp only [decide_eq_false_iff_not]
    omega
  · by_cases hj : j < 1
    · rw [if_pos hj]
      have : j = 0 := by omega
      subst this
      exact ⟨by decide, ⟨.str (toS (List.replicate (0 : Int).toNat z).flatten), H, I.tok _, ⟨_, rfl⟩, q⟩⟩
    · rw [if_neg hj]
      by_cases hc : (j == 1 || (toS z).length == 0) = true
      · rw [if_pos hc]
        refine ⟨.str (toS z), H, I, ⟨_, rfl⟩, ?_⟩
        have e4 : (List.replicate j.toNat z).flatten = z := by
          rw [Bool.or_eq_true, beq_iff_eq, beq_iff_eq, hl] at hc
          rcases hc with rfl | hc
          · simp
          · rw [List.eq_nil_of_length_eq_zero hc]
            simp
        rw [e4] at q
        exact q
      · rw [if_neg hc, fr]
        refine ⟨?_, ⟨.str (toS (List.replicate j.toNat z).flatten), H, I.tok _, ⟨_, rfl⟩, q⟩⟩
        show (toS (List.replicate j.toNat z).flatten).length ≤ sizeLine
        rw [toS_length, List.length_flatten, List.map_replicate, List.sum_replicate_nat, Nat.mul_comm]
        omega
/-- tuple * number -/
theorem op_mulT : OpR X (binaryOp .Mult) (fun x y H Q => ∃ (l : Addr) (j : Int) (xs : List V), x = .ref l ∧ y = .int j ∧ SqT X.kw H l xs ∧ xs ≠ [] ∧ 2 ≤ j ∧ j ≤ 1000 ∧ xs.length ≤ 1000 ∧ NewT H (List.replicate j.toNat xs).flatten Q) := by
  intro pins s σ H x y v u Q I rx ry ⟨l, j, xs, ex, ey, hT, hne, h1, h2, hz, q⟩
  subst ex ey
  cases rx
  obtain ⟨t, rfl⟩ := ry
  obtain ⟨vs, r, ⟨⟨cls, dd, data, sl⟩, ho, hc, n, hd⟩, _⟩ := I.tuple hT
  simp only at hc hd
  subst hc hd
  have hle := r.length
  have emp : vs.toArray.isEmpty = false := by
    cases vs with
    | nil => exact absurd (List.eq_nil_of_length_eq_zero (by rw [hle]; rfl)) hne
    | cons _ _ => rfl
  have size : vs.toArray.size = xs.length := by rw [List.size_toArray, hle]
  have all : (List.replicate j.toNat xs).flatten.length ≤ 1000000 := by
    rw [PyProof.Rows.lm_len_rep_flat]
    have a1 : j.toNat * xs.length ≤ 1000 * 1000 := Nat.mul_le_mul (by omega) hz
    omega
  have all2 : (List.replicate j.toNat vs).flatten.length ≤ 1000000 := by
    rw [PyProof.Rows.lm_len_rep_flat, ← hle]
    rw [PyProof.Rows.lm_len_rep_flat] at all
    exact all
  have mult : ((vs.toArray.size : Nat) : Int) * j ≤ 1000000 := by
    rw [size]
    have a1 : ((xs.length : Nat) : Int) * j ≤ 1000 * j := Int.mul_le_mul_of_nonneg_right (by omega) (by omega)
    omega
  have line := sizeLine_eq
  have d0 : (decide (j < -(2 ^ 63)) || decide (j ≥ 2 ^ 63)) = false := by
    rw [Bool.or_eq_false_iff]
    exact ⟨decide_eq_false (by omega), decide_eq_false (by omega)⟩
  have d1 : (vs.toArray.isEmpty || j == 1) = false := by
    rw [Bool.or_eq_false_iff]
    exact ⟨emp, beq_eq_false_iff_ne.mpr (by omega)⟩
  have d2 : (decide (j ≤ 0) || vs.toArray.isEmpty) = false := by
    rw [Bool.or_eq_false_iff]
    exact ⟨decide_eq_false (by omega), emp⟩
  have d4 : Builtin.Tuple.tupleTooMany (((vs.toArray.size : Nat) : Int) * j) = false := by
    unfold Builtin.Tuple.tupleTooMany
    exact decide_eq_false (by omega)
  have fin : EP X pins σ Q (.ref s.heap.objs.size) { s with heap := s.heap.push { cls := .type "tuple", data := .seq (List.replicate j.toNat vs).flatten.toArray } } :=
    lay_tup I (r.rep j.toNat) (by omega) q
  have inner := tuple_mulW l vs.toArray n dd sl j t d0 d1 d2 (by omega) d4 (by rw [size_rep, List.size_toArray]; omega)
  refine wpAny_binaryOp_repeat_ref (T := "tuple") (U := "int") (by decide) ⟨_, ho, rfl⟩ (fun s' => typeIs_int s' j t) noFill_tuple_mul PySem.F.fills_int_mul PySem.F.slot_int_rmul repeat_tuple PySem.F.slot_int_index.lookup (call_meets PySem.F.slot_int_rmul (typeIs_int s j t) PySem.F.entry_int_rmul (PySem.F.args_int_rmul_2 _ _) (int_rmul_tuple j t l vs.toArray n dd sl) ⟨ho, rfl, ⟨_, ho, rfl⟩, ?_⟩)
  refine call_meets PySem.F.slot_tuple_mul ⟨_, ho, rfl⟩ PySem.F.entry_tuple_mul (PySem.F.args_tuple_mul_2 _ _) inner ⟨ho, ?_⟩
  rw [size_rep]
  exact fin
/-- tuple * 1: the same -/
theorem op_mulT1 : OpR X (binaryOp .Mult) (fun x y H Q => ∃ (l : Addr) (xs : List V), x = .ref l ∧ y = .int 1 ∧ SqT X.kw H l xs ∧ Q (.ref l) H) := by
  intro pins s σ H x y v u Q I rx ry ⟨l, xs, ex, ey, hT, q⟩
  subst ex ey
  cases rx
  obtain ⟨t, rfl⟩ := ry
  obtain ⟨vs, r, ⟨⟨cls, dd, data, sl⟩, ho, hc, n, hd⟩, _⟩ := I.tuple hT
  simp only at hc hd
  subst hc hd
  have d0 : (decide ((1 : Int) < -(2 ^ 63)) || decide ((1 : Int) ≥ 2 ^ 63)) = false := by decide
  have d1 : (vs.toArray.isEmpty || (1 : Int) == 1) = true := by simp
  have inner := tuple_mul1 l vs.toArray n dd sl 1 t d0 d1
  refine wpAny_binaryOp_repeat_ref (T := "tuple") (U := "int") (by decide) ⟨_, ho, rfl⟩ (fun s' => typeIs_int s' 1 t) noFill_tuple_mul PySem.F.fills_int_mul PySem.F.slot_int_rmul repeat_tuple PySem.F.slot_int_index.lookup (call_meets PySem.F.slot_int_rmul (typeIs_int s 1 t) PySem.F.entry_int_rmul (PySem.F.args_int_rmul_2 _ _) (int_rmul_tuple 1 t l vs.toArray n dd sl) ⟨ho, rfl, ⟨_, ho, rfl⟩, ?_⟩)
  refine call_meets PySem.F.slot_tuple_mul ⟨_, ho, rfl⟩ PySem.F.entry_tuple_mul (PySem.F.args_tuple_mul_2 _ _) inner ⟨ho, ?_⟩
  exact ⟨.ref l, H, I, rfl, q⟩
/-- tuple * 0: none -/
theorem op_mulT0 : OpR X (binaryOp .Mult) (fun x y H Q => ∃ (l : Addr) (xs : List V), x = .ref l ∧ y = .int 0 ∧ SqT X.kw H l xs ∧ xs ≠ [] ∧ NewT H [] Q) := by
  intro pins s σ H x y v u Q I rx ry ⟨l, xs, ex, ey, hT, hne, q⟩
  subst ex ey
  cases rx
  obtain ⟨t, rfl⟩ := ry
  obtain ⟨vs, r, ⟨⟨cls, dd, data, sl⟩, ho, hc, n, hd⟩, _⟩ := I.tuple hT
  simp only at hc hd
  subst hc hd
  have hle := r.length
  have emp : vs.toArray.isEmpty = false := by
    cases vs with
    | nil => exact absurd (List.eq_nil_of_length_eq_zero (by rw [hle]; rfl)) hne
    | cons _ _ => rfl
  have d0 : (decide ((0 : Int) < -(2 ^ 63)) || decide ((0 : Int) ≥ 2 ^ 63)) = false := by decide
  have d1 : (vs.toArray.isEmpty || (0 : Int) == 1) = false := by rw [emp]; rfl
  have d2 : (decide ((0 : Int) ≤ 0) || vs.toArray.isEmpty) = true := by rw [emp]; rfl
  have inner := tuple_mul0 l vs.toArray n dd sl 0 t d0 d1 d2
  have fin : EP X pins σ Q (.ref s.heap.objs.size) { s with heap := s.heap.push { cls := .type "tuple", data := .seq #[] } } := lay_tup I (its := []) .nil (Nat.zero_le _) q
  refine wpAny_binaryOp_repeat_ref (T := "tuple") (U := "int") (by decide) ⟨_, ho, rfl⟩ (fun s' => typeIs_int s' 0 t) noFill_tuple_mul PySem.F.fills_int_mul PySem.F.slot_int_rmul repeat_tuple PySem.F.slot_int_index.lookup (call_meets PySem.F.slot_int_rmul (typeIs_int s 0 t) PySem.F.entry_int_rmul (PySem.F.args_int_rmul_2 _ _) (int_rmul_tuple 0 t l vs.toArray n dd sl) ⟨ho, rfl, ⟨_, ho, rfl⟩, ?_⟩)
  refine call_meets PySem.F.slot_tuple_mul ⟨_, ho, rfl⟩ PySem.F.entry_tuple_mul (PySem.F.args_tuple_mul_2 _ _) inner ⟨ho, ?_⟩
  exact fin
/-- list + list, read -/
theorem op_catL : OpR X (binaryOp .Add) (fun x y H Q => ∃ l b xs zs, x = .ref l ∧ y = .ref b ∧ SqL X.kw H l xs ∧ SqL X.kw H b zs ∧ xs.length + zs.length ≤ sizeLine ∧ ∀ p, H p = none → Q (.ref p) (upd H p (.lst (xs ++ zs)))) := by
  intro pins s σ H x y v u Q I rx ry h
  obtain ⟨l, b, xs, zs, rfl, rfl, hH, hB, hz, q⟩ := h
  cases rx
  cases ry
  obtain ⟨its, r, ⟨⟨cls, dd, data, sl⟩, n, ho, hc, hd0, hd⟩, z⟩ := I.list hH
  obtain ⟨its2, r2, ⟨⟨cls2, dd2, data2, sl2⟩, n2, ho2, hc2, hd02, hd2⟩, z2⟩ := I.list hB
  simp only at hc hd0 hd hc2 hd02 hd2
  subst hc hd0 hd hc2 hd02 hd2
  have hl := r.length
  have hl2 := r2.length
  have ea : its.toArray ++ its2.toArray = (its ++ its2).toArray := by simp
  refine concat_meets ⟨_, ho, rfl⟩ ⟨_, ho2, rfl⟩ noFill_list_add seq_list_add PySem.F.slot_list_add PySem.F.entry_list_add (PySem.F.args_list_add_2 _ _) (list_addW l b its.toArray its2.toArray n n2 none none sl sl2 (by simp; omega)) ⟨ho, ho2, ?_⟩
  rw [ea]
  exact ⟨.ref _, _, I.lnew (t' := s.toks) (r.append r2) (by rw [List.length_append]; omega), rfl, q _ I.fresh⟩
theorem op_mulB : OpR X (binaryOp .Mult) (rI (fun i j => i.natAbs.log2 + j.natAbs.log2 < 100000000) fun i j => .int (i * j)) := opI fun _ _ _ _ _ _ _ hc q => mul_int q (mulOk hc)

theorem ls_sq {K : KW} {al : Nat → Addr} {U : List Addr} {S : Store} {H : Hp} {a : D} {x : V} {ds : List D} (sr : SR K al U S H) (ra : Rep K al S.length U H a x) (e : lsD S a = some ds) :
    ∃ p vs, x = .ref p ∧ SqL K H p vs ∧ ds.length ≤ sizeLine ∧ Reps K al S.length U H ds vs := by
  cases a with
  | lst es =>
    cases e
    simp only [Rep] at ra
    obtain ⟨p, vs, rfl, t, l, r⟩ := ra
    exact ⟨p, vs, rfl, t.sq, l, r⟩
  | ref m =>
    simp only [Rep] at ra
    obtain ⟨hm, rfl⟩ := ra
    unfold lsD at e
    cases ho : S[m]? with
    | none => simp [ho] at e
    | some ob =>
      cases ob with
      | lst es =>
        simp only [ho, Option.some.injEq] at e
        subst e
        obtain ⟨vs, h1, l, rs⟩ := sr.obj m _ ho
        exact ⟨_, vs, rfl, SqL.of h1, l, rs⟩
      | _ => simp [ho] at e
  | _ => cases e
theorem op_catD {m : Bool} (pins : List (Addr × Obj)) (s : Shared) (σ : L2.St) (H : Hp) (x y : V) (v u : Value) (Q : VK) (I : Inv X pins σ H s) (rx : RelV x v) (ry : RelV y u) {al : Nat → Addr} {U : List Addr} {S S' : Store} {a b d : D} (sr : SR X.kw al U S H) (ra : Rep X.kw al S.length U H a x) (rb : Rep X.kw al S.length U H b y) (e : catD m a b S = .ok (d, S'))
    (q : ∀ v H' al', Nxt al S.length H al' S'.length H' → SR X.kw al' U S' H' → Rep X.kw al' S'.length U H' d v → Q v H') : wpAny (model X.prog X.w) X.A (binaryOp .Add v u) (EP X pins σ Q) X.xe s := by
  unfold catD at e
  split at e
  · rename_i xs ys ex ey
    split at e
    · rename_i hz
      obtain ⟨p1, vs, rfl, t1, l1, r1⟩ := ls_sq sr ra ex
      obtain ⟨p2, ws, rfl, t2, l2, r2⟩ := ls_sq sr rb ey
      have h1 := r1.length
      have h2 := r2.length
      exact op_catL pins s σ H _ _ v u Q I rx ry ⟨_, _, _, _, rfl, rfl, t1, t2, by omega, new_lit sr e (by simpa using hz) (r1.append r2) q⟩
    · cases e
  · cases e
theorem op_D (o : Op) : OpR X (binaryOp (opA o)) (tOpD X.kw (binD o)) := by
  intro pins s σ H x y v u Q I rx ry ⟨al, U, S, a, b, d, S', sr, ra, rb, e, q⟩
  unfold binD at e
  split at e
  · simp only [Rep] at ra rb
    cases e
    exact op_add pins s σ H x y v u Q I rx ry ⟨_, _, ra, rb, q _ _ _ .refl sr (by simp only [Rep])⟩
  · simp only [Rep] at ra rb
    split at e <;> cases e
    rename_i hz
    refine op_add_str pins s σ H x y v u Q I rx ry ⟨_, _, ra.1, rb.1, by rw [toS_length, toS_length]; exact hz, ?_⟩
    rw [toS_app]
    exact q _ _ _ .refl sr (by simp only [Rep]; exact ⟨trivial, by simpa using hz⟩)
  · simp only [Rep] at ra rb
    split at e <;> cases e
    rename_i hz
    obtain ⟨p1, vs, rfl, t1, l1, r1⟩ := ra
    obtain ⟨p2, ws, rfl, t2, l2, r2⟩ := rb
    have h1 := r1.length
    have h2 := r2.length
    have nl : ∀ (ys : List D), ys.length = 0 → ys = [] := fun ys => List.eq_nil_of_length_eq_zero
    rename_i x' y'
    refine op_catTP pins s σ H _ _ v u Q I rx ry ⟨_, _, _, _, rfl, rfl, t1.sq, t2.sq, by omega, fun z => ?_, fun z => ?_, new_tup sr (by simpa using hz) (r1.append r2) q⟩
    · refine q _ _ _ .refl sr ?_
      have ex : x' = [] := nl _ (by rw [h1, z]; rfl)
      rw [ex, List.nil_append]
      simp only [Rep]
      exact ⟨_, _, rfl, t2, l2, r2⟩
    · refine q _ _ _ .refl sr ?_
      have ey : y' = [] := nl _ (by rw [h2, z]; rfl)
      rw [ey, List.append_nil]
      simp only [Rep]
      exact ⟨_, _, rfl, t1, l1, r1⟩
  · simp only [Rep] at ra rb
    split at e <;> cases e
    rename_i hz
    obtain ⟨p1, vs, rfl, t1, l1, r1⟩ := ra
    obtain ⟨p2, ws, rfl, t2, l2, r2⟩ := rb
    have h1 := r1.length
    have h2 := r2.length
    exact op_catL pins s σ H _ _ v u Q I rx ry ⟨_, _, _, _, rfl, rfl, t1.sq, t2.sq, by omega, new_lst sr (by simpa using hz) (r1.append r2) q⟩
  · simp only [Rep] at ra rb
    split at e <;> cases e
    rename_i hz
    obtain ⟨p1, vs, rfl, t1, l1, r1⟩ := ra
    obtain ⟨p2, ws, rfl, t2, l2, r2⟩ := rb
    have h1 := r1.length
    have h2 := r2.length
    exact op_catL pins s σ H _ _ v u Q I rx ry ⟨_, _, _, _, rfl, rfl, t1.sq, t2.sq, by omega, new_lit (m := true) sr rfl (by simpa using hz) (r1.append r2) q⟩
  · exact op_catD pins s σ H x y v u Q I rx ry sr ra rb e q
  · exact op_catD pins s σ H x y v u Q I rx ry sr ra rb e q
  · exact op_catD pins s σ H x y v u Q I rx ry sr ra rb e q
  · exact op_catD pins s σ H x y v u Q I rx ry sr ra rb e q
  · simp only [Rep] at ra rb
    cases e
    exact op_sub pins s σ H x y v u Q I rx ry ⟨_, _, ra, rb, q _ _ _ .refl sr (by simp only [Rep])⟩
  · simp only [Rep] at ra rb
    split at e <;> cases e
    rename_i hz
    exact op_mulB pins s σ H x y v u Q I rx ry ⟨_, _, ra, rb, hz, q _ _ _ .refl sr (by simp only [Rep])⟩
  · simp only [Rep] at ra rb
    split at e <;> cases e
    rename_i hz
    refine op_mulS pins s σ H x y v u Q I rx ry ⟨_, _, ra.1, rb, hz.1, hz.2.1, hz.2.2, q _ _ _ .refl sr ?_⟩
    simp only [Rep]
    refine ⟨trivial, ?_⟩
    rw [List.length_flatten, List.map_replicate, List.sum_replicate_nat]
    rename_i x' j'
    have h1 : j'.toNat * x'.length ≤ 1000 * 10000 := Nat.mul_le_mul (by omega) hz.2.2
    have h2 : sizeLine = 16777216 := by decide
    exact Nat.le_trans h1 (by omega)
  · simp only [Rep] at ra rb
    split at e <;> cases e
    rename_i hz
    obtain ⟨p1, vs, rfl, t1, l1, r1⟩ := ra
    have hle := r1.length
    rename_i x' j'
    have hvs : vs ≠ [] := fun z => hz.1 (List.eq_nil_of_length_eq_zero (by rw [hle, z]; rfl))
    by_cases hj0 : j' = 0
    · subst hj0
      refine op_mulT0 pins s σ H _ y v u Q I rx ry ⟨_, vs, rfl, rb, t1.sq, hvs, new_tup (ds := (List.replicate (0 : Int).toNat x').flatten) sr (Nat.zero_le _) ?_ q⟩
      show Reps _ _ _ _ _ [] []
      simp only [Reps]
    by_cases hj1 : j' = 1
    · subst hj1
      refine op_mulT1 pins s σ H _ y v u Q I rx ry ⟨_, vs, rfl, rb, t1.sq, q _ _ _ .refl sr ?_⟩
      have e1 : (List.replicate (1 : Int).toNat x').flatten = x' := by simp
      rw [e1]
      simp only [Rep]
      exact ⟨_, _, rfl, t1, l1, r1⟩
    have hz2 : 2 ≤ j' := by omega
    refine op_mulT pins s σ H _ y v u Q I rx ry ⟨_, _, vs, rfl, rb, t1.sq, hvs, hz2, hz.2.2.1, by omega, new_tup sr ?_ (Reps.rep r1 _) q⟩
    rw [PyProof.Rows.lm_len_rep_flat]
    have a1 : j'.toNat * x'.length ≤ 1000 * 1000 := Nat.mul_le_mul (by omega) hz.2.2.2
    have h2 : sizeLine = 16777216 := by decide
    omega
  · simp only [Rep] at ra rb
    split at e <;> cases e
    rename_i hz
    obtain ⟨p1, vs, rfl, t1, l1, r1⟩ := ra
    have h1 := r1.length
    rename_i x' j'
    have hs : vs.length * j'.toNat ≤ sizeLine := by
      have a1 : vs.length * j'.toNat ≤ 10 * 1000000 := Nat.mul_le_mul (by omega) (by omega)
      have a2 : sizeLine = 16777216 := by decide
      omega
    have hs2 : (List.replicate j'.toNat x').flatten.length ≤ sizeLine := by
      rw [PyProof.Rows.lm_len_rep_flat, Nat.mul_comm, h1]
      exact hs
    exact op_mulL pins s σ H _ _ v u Q I rx ry ⟨_, _, _, rfl, rb, t1.sq, hz.1, by omega, hs, new_lst sr hs2 (r1.rep j'.toNat) q⟩
  · simp only [Rep] at ra rb
    split at e
    · rename_i hz
      obtain ⟨p1, vs, rfl, t1, l1, r1⟩ := ra
      have h1 := r1.length
      rename_i x' j'
      have hs : vs.length * j'.toNat ≤ sizeLine := by
        have a1 : vs.length * j'.toNat ≤ 10 * 1000000 := Nat.mul_le_mul (by omega) (by omega)
        have a2 : sizeLine = 16777216 := by decide
        omega
      have hs2 : (List.replicate j'.toNat x').flatten.length ≤ sizeLine := by
        rw [PyProof.Rows.lm_len_rep_flat, Nat.mul_comm, h1]
        exact hs
      exact op_mulL pins s σ H _ _ v u Q I rx ry ⟨_, _, _, rfl, rb, t1.sq, hz.1, by omega, hs, new_lit (m := true) sr e hs2 (r1.rep j'.toNat) q⟩
    · cases e
  · simp only [Rep] at ra rb
    split at e <;> cases e
    rename_i hz
    exact op_modN pins s σ H x y v u Q I rx ry ⟨_, _, ra, rb, hz, q _ _ _ .refl sr (by simp only [Rep])⟩
  · simp only [Rep] at ra rb
    split at e <;> cases e
    rename_i hz
    exact op_pow pins s σ H x y v u Q I rx ry ⟨_, _, ra, rb, hz, q _ _ _ .refl sr (by simp only [Rep])⟩
  · simp only [Rep] at ra rb
    split at e <;> cases e
    rename_i hz
    exact op_shl pins s σ H x y v u Q I rx ry ⟨_, _, ra, rb, hz, q _ _ _ .refl sr (by simp only [Rep])⟩
  · simp only [Rep] at ra rb
    split at e <;> cases e
    rename_i hz
    exact op_shr pins s σ H x y v u Q I rx ry ⟨_, _, ra, rb, hz, q _ _ _ .refl sr (by simp only [Rep])⟩
  · simp only [Rep] at ra rb
    cases e
    exact op_and pins s σ H x y v u Q I rx ry ⟨_, _, ra, rb, q _ _ _ .refl sr (by simp only [Rep])⟩
  · cases e
end
end Z

set_option Elab.async false
set_option linter.all false
set_option maxRecDepth 100000
set_option maxHeartbeats 4000000
/-! Nest: dicts whose keys are tuples of any depth. -/
namespace Z
open PySem L2 PySem.Spec PyProof.Rows

section
variable {X : Cx} {pins : List (Addr × Obj)} {σ : L2.St} {H : Hp} {s : Shared} {al : Nat → Addr} {n : Nat} {U : List Addr}
mutual
theorem nested_of (I : Inv X pins σ H s) : ∀ (d : D) (v : V) (u : Value) (k : NestedKey), Rep X.kw al n U H d v → RelV v u → nkD d = some k → NestedIs s.heap k u
  | .non, v, u, k, r, ru, e => by
    simp only [Rep] at r
    subst r
    simp only [nkD, Option.some.injEq] at e
    subst e
    obtain rfl : u = .none := ru
    exact .none
  | .bl b, v, u, k, r, ru, e => by
    simp only [Rep] at r
    subst r
    simp only [nkD, Option.some.injEq] at e
    subst e
    obtain rfl : u = .bool b := ru
    exact .bool rfl
  | .int i, v, u, k, r, ru, e => by
    simp only [Rep] at r
    subst r
    simp only [nkD, Option.some.injEq] at e
    subst e
    obtain ⟨t, rfl⟩ : ∃ t, u = .int i t := ru
    exact .int _ _
  | .str x, v, u, k, r, ru, e => by
    simp only [Rep] at r
    simp only [nkD, Option.some.injEq] at e
    subst e
    rw [r.1] at ru
    obtain ⟨t, rfl⟩ : ∃ t, u = .str (toS x) t := ru
    exact .text _ _
  | .tup ds, v, u, k, r, ru, e => by
    simp only [Rep] at r
    obtain ⟨a, vs, rfl, t, l, rs⟩ := r
    obtain rfl : u = .ref a := ru
    simp only [nkD] at e
    obtain ⟨ks, e1, rfl⟩ := Option.map_eq_some_iff.mp e
    obtain ⟨its, rv, ⟨o, ho, hc, m, hd⟩, _⟩ := I.tuple t.sq
    exact .tup ho hc hd (by simpa using nesteds_of I ds vs its ks rs rv e1)
  | .lst _, _, _, _, _, _, e => by simp [nkD] at e
  | .ref _, _, _, _, _, _, e => by simp [nkD] at e
theorem nesteds_of (I : Inv X pins σ H s) : ∀ (ds : List D) (vs : List V) (us : List Value) (ks : List NestedKey), Reps X.kw al n U H ds vs → Vals vs us → nkDs ds = some ks → NestedAll s.heap ks us
  | [], vs, us, ks, r, ru, e => by
    simp only [Reps] at r
    subst r
    cases ru
    simp only [nkDs, Option.some.injEq] at e
    subst e
    exact .nil
  | d :: ds, vs, us, ks, r, ru, e => by
    simp only [Reps] at r
    obtain ⟨v, r', rfl, r1, r2⟩ := r
    cases ru with
    | cons h t =>
      simp only [nkDs] at e
      obtain ⟨k, e1, e2⟩ := Option.bind_eq_some_iff.mp e
      obtain ⟨ks', e3, rfl⟩ := Option.map_eq_some_iff.mp e2
      exact .cons (nested_of I d v _ k r1 h e1) (nesteds_of I ds r' _ ks' r2 t e3)
end
theorem keyN_some {d : D} {k : NestedKey} (h : keyN d = some k) : nkD d = some k ∧ k.depth ≤ 8 ∧ ∃ ds, d = .tup ds := by
  cases d with
  | tup ds =>
    simp only [keyN] at h
    obtain ⟨ks, e1, e2⟩ := Option.bind_eq_some_iff.mp h
    split at e2
    · rename_i hd
      cases e2
      exact ⟨by simp only [nkD, e1, Option.map_some], hd, ds, rfl⟩
    · cases e2
  | _ => cases h
theorem keyN_is (I : Inv X pins σ H s) {d : D} {v : V} {u : Value} {k : NestedKey} (r : Rep X.kw al n U H d v) (ru : RelV v u) (h : keyN d = some k) : ∃ b, v = .ref b ∧ u = .ref b ∧ (nestedKind X.prog X.w).is s.heap k b := by
  obtain ⟨h1, h2, ds, rfl⟩ := keyN_some h
  have := nested_of I _ v u k r ru h1
  simp only [Rep] at r
  obtain ⟨a, vs, rfl, _⟩ := r
  obtain rfl : u = .ref a := ru
  exact ⟨a, rfl, rfl, this, h2⟩
theorem keys_are (I : Inv X pins σ H s) : ∀ {ks : List D} {xs : List (NestedKey × Addr × Value)}, Reps X.kw al n U H ks (xs.map fun x => V.ref x.2.1) → ks.map keyN = (xs.map fun x => some x.1) → ∀ x ∈ xs, (nestedKind X.prog X.w).is s.heap x.1 x.2.1
  | [], [], _, _, x, h => nomatch h
  | [], _ :: _, _, e, _, _ => by simp at e
  | _ :: _, [], _, e, _, _ => by simp at e
  | d :: ks, y :: xs, r, e, x, h => by
    simp only [List.map_cons, Reps] at r e
    obtain ⟨v, r', e2, r1, r2⟩ := r
    simp only [List.cons.injEq] at e e2
    rcases List.mem_cons.mp h with rfl | h
    · obtain ⟨b, e3, _, z⟩ := keyN_is I r1 (u := .ref x.2.1) (by rw [← e2.1]; rfl) e.1
      rw [← e2.1] at e3
      cases e3
      exact z
    · exact keys_are I (by rw [e2.2]; exact r2) e.2 x h
theorem nd_ok {w : World} {P : Program} {H' : Hp} {h : Heap} {a : Addr} {xs : List (NestedKey × Addr × Value)} (p : ndP w a xs h) : ObjOk P w H' h a (.ext (ndP w a xs)) :=
  ⟨p, let ⟨o, _, _, e, _⟩ := p; ⟨o, e⟩, fun _ _ ⟨o, es, ep, e, r⟩ k => ⟨o, es, ep, k o e, r⟩⟩
theorem nd_full (I : Inv X pins σ H s) {a : Addr} {ks : List D} {bs us : List V} {xs : List (NestedKey × Addr × Value)} (e : H a = some (.ext (ndP X.w a xs))) (N : NdOk a ks bs us xs) (r : Reps X.kw al n U H ks bs) : s.heap.DictOfH (nestedKind X.prog X.w) a xs := by
  obtain ⟨o, es, ep, h1, h2, h3, h4⟩ := (show ObjOk X.prog X.w H s.heap a (.ext (ndP X.w a xs)) from I.hok a _ e).1
  exact ⟨o, es, ep, h1, h2, h3, h4, keys_are I (by rw [← N.ref]; exact r) N.key, N.nod⟩
theorem findN_at {k : NestedKey} : ∀ {ks vs : List D} {us : List V} {xs : List (NestedKey × Addr × Value)}, ks.map keyN = (xs.map fun x => some x.1) → Reps X.kw al n U H vs us → Vals us (xs.map (·.2.2)) →
    (inN k ks = (atKey xs k).isSome) ∧ (∀ d, findN ks vs k = some d → ∃ p v, atKey xs k = some p ∧ Rep X.kw al n U H d v ∧ RelV v p.2) ∧ (findN ks vs k = none → atKey xs k = none)
  | [], vs, us, [], _, _, _ => by
    refine ⟨rfl, fun d h => ?_, fun _ => rfl⟩
    simp [findN] at h
  | [], _, _, _ :: _, e, _, _ => by simp at e
  | _ :: _, _, _, [], e, _, _ => by simp at e
  | c :: ks, vs, us, x :: xs, e, r, rv => by
    simp only [List.map_cons, List.cons.injEq] at e
    rw [List.map_cons] at rv
    cases rv with
    | @cons u w us' ws' hu hv =>
      cases vs with
      | nil => simp only [Reps] at r; cases r
      | cons d vs =>
        simp only [Reps] at r
        obtain ⟨v, r', e2, r1, r2⟩ := r
        simp only [List.cons.injEq] at e2
        obtain ⟨rfl, rfl⟩ := e2
        obtain ⟨ih1, ih2, ih3⟩ := findN_at (k := k) e.2 r2 hv
        by_cases hk : x.1 = k
        · have a1 : atKey (x :: xs) k = some x.2 := by simp [atKey, List.find?_cons, hk]
          rw [a1]
          refine ⟨?_, fun d' h => ?_, fun h => ?_⟩
          · unfold inN
            rw [List.any_cons, e.1, hk]
            simp
          · rw [findN, e.1, hk, if_pos rfl] at h
            cases h
            exact ⟨_, _, rfl, r1, hu⟩
          · rw [findN, e.1, hk, if_pos rfl] at h
            cases h
        · have a1 : atKey (x :: xs) k = atKey xs k := by simp [atKey, List.find?_cons, hk]
          have k1 : ¬ keyN c = some k := by rw [e.1]; simpa using hk
          rw [a1]
          refine ⟨?_, fun d' h => ?_, fun h => ?_⟩
          · unfold inN at ih1 ⊢
            rw [List.any_cons, decide_eq_false k1, Bool.false_or, ih1]
          · rw [findN, if_neg k1] at h
            exact ih2 d' h
          · rw [findN, if_neg k1] at h
            exact ih3 h
theorem nd_room {P : Program} {w : World} {A : Around} (h : A.units + 64 < cLine) : (nestedKind P w).room A.in1 := by
  show A.units + 1 + 8 < cLine
  omega
variable {S : Store}
theorem n_mem (neg : Bool) (hu : X.A.units + 64 < cLine) (I : Inv X pins σ H s) {x : V} {v : Value} {a : D} {i : Addr} {ks vs : List D} {k : NestedKey} {Q : VK} (rx : RelV x v) (ra : Rep X.kw al n U H a x) (ho : ObjRep X.kw al n U H i (.dcn ks vs)) (ek : keyN a = some k)
    (q : Q (.bl (if neg then !(inN k ks) else inN k ks)) H) : wpAny (model X.prog X.w) X.A (compareOp (if neg then .NotIn else .In) v (.ref i)) (EP X pins σ Q) X.xe s := by
  obtain ⟨xs, bs, us, h1, N, r1, r2⟩ := ho
  obtain ⟨b, rfl, rfl, hk⟩ := keyN_is I ra rx ek
  have full := nd_full I h1 N r1
  obtain ⟨f1, _⟩ := findN_at (k := k) N.key r2 N.val
  rw [f1] at q
  cases neg with
  | false => exact wpAny_in_heap (nd_room hu) hk N.sys full ⟨.bl (atKey xs k).isSome, H, I.tok _, rfl, q⟩
  | true => exact wpAny_notIn_heap (nd_room hu) hk N.sys full ⟨.bl (!(atKey xs k).isSome), H, I.tok _, rfl, q⟩
theorem n_getItem {E : Value → Shared → Prop} {Q : Value → Shared → Prop} (hu : X.A.units + 64 < cLine) (I : Inv X pins σ H s) {y : V} {u : Value} {a : D} {i : Addr} {ks vs : List D} {k : NestedKey} {d : D} (ry : RelV y u) (ra : Rep X.kw al n U H a y) (ho : ObjRep X.kw al n U H i (.dcn ks vs)) (ek : keyN a = some k)
    (hf : findN ks vs k = some d) (q : ∀ w w' s', Inv X pins σ H s' → RelV w w' → Rep X.kw al n U H d w → Q w' s') : s.TypeIs (.ref i) "dict" ∧ wpAny (model X.prog X.w) X.A (getItem (.ref i) u) Q E s := by
  obtain ⟨xs, bs, us, h1, N, r1, r2⟩ := ho
  obtain ⟨b, rfl, rfl, hk⟩ := keyN_is I ra ry ek
  have full := nd_full I h1 N r1
  obtain ⟨_, f2, _⟩ := findN_at (k := k) N.key r2 N.val
  obtain ⟨p, w, e1, e2, e3⟩ := f2 d hf
  exact ⟨full.typeIs, wpAny_getItem_heap (nd_room hu) hk full e1 (q w p.2 _ (I.tok _) e3 e2)⟩
theorem putN_ok {a : Addr} {ks vs : List D} {bs us : List V} {xs : List (NestedKey × Addr × Value)} {c d : D} {b : Addr} {v : V} {u : Value} {k : NestedKey} (N : NdOk a ks bs us xs) (r1 : Reps X.kw al n U H ks bs) (r2 : Reps X.kw al n U H vs us) (hl : ks.length < sizeLine)
    (ek : keyN c = some k) (rc : Rep X.kw al n U H c (.ref b)) (rd : Rep X.kw al n U H d v) (rv : RelV v u) :
    ∃ bs' us', NdOk a (putN ks vs c k d).1 bs' us' (storedH xs k b u) ∧ Reps X.kw al n U H (putN ks vs c k d).1 bs' ∧ Reps X.kw al n U H (putN ks vs c k d).2 us' := by
  obtain ⟨f1, _, f3⟩ := findN_at (k := k) N.key r2 N.val
  unfold putN storedH
  rw [f1]
  cases hs : (atKey xs k).isSome with
  | true =>
    simp only [if_true]
    have go : ∀ {ks vs : List D} {us : List V} {xs : List (NestedKey × Addr × Value)}, ks.map keyN = (xs.map fun x => some x.1) → Reps X.kw al n U H vs us → Vals us (xs.map (·.2.2)) →
        ∃ us', Reps X.kw al n U H (putVN k d ks vs) us' ∧ Vals us' ((xs.map (putAt k u)).map (·.2.2)) := by
      intro ks
      induction ks with
      | nil =>
        intro vs us xs e r rv'
        cases xs with
        | nil => exact ⟨us, by simpa [putVN] using r, rv'⟩
        | cons _ _ => simp at e
      | cons c' ks ih =>
        intro vs us xs e r rv'
        cases xs with
        | nil => simp at e
        | cons x xs =>
          simp only [List.map_cons, List.cons.injEq] at e
          rw [List.map_cons] at rv'
          cases rv' with
          | @cons u1 w1 us1 ws1 hu1 hv1 =>
            cases vs with
            | nil => simp only [Reps] at r; cases r
            | cons d1 vs =>
              simp only [Reps] at r
              obtain ⟨v1, r', e2, q1, q2⟩ := r
              simp only [List.cons.injEq] at e2
              obtain ⟨rfl, rfl⟩ := e2
              obtain ⟨us2, i1, i2⟩ := ih e.2 q2 hv1
              by_cases hk : x.1 = k
              · refine ⟨v :: us2, ?_, ?_⟩
                · rw [putVN, e.1, hk, if_pos rfl]
                  simp only [Reps]
                  exact ⟨v, us2, rfl, rd, i1⟩
                · have : putAt k u x = (x.1, x.2.1, u) := by simp [putAt, hk]
                  rw [List.map_cons, List.map_cons, this]
                  exact .cons rv i2
              · have k1 : ¬ keyN c' = some k := by rw [e.1]; simpa using hk
                refine ⟨u1 :: us2, ?_, ?_⟩
                · rw [putVN, if_neg k1]
                  simp only [Reps]
                  exact ⟨u1, us2, rfl, q1, i1⟩
                · have : putAt k u x = x := by simp [putAt, hk]
                  rw [List.map_cons, List.map_cons, this]
                  exact .cons hu1 i2
    obtain ⟨us', g1, g2⟩ := go N.key r2 N.val
    refine ⟨bs, us', ⟨N.sys, N.len, by rw [keys_map_putAt]; exact N.nod, ?_, ?_, g2⟩, r1, g1⟩
    · rw [N.key]
      have := congrArg (List.map some) (keys_map_putAt xs k u)
      simp only [List.map_map] at this ⊢
      exact this.symm
    · rw [N.ref, List.map_map]
      apply List.map_congr_left
      intro x _
      simp only [Function.comp, putAt]
      split <;> rfl
  | false =>
    simp only [Bool.false_eq_true, if_false]
    have hn : k ∉ xs.map (·.1) := by
      intro hm
      obtain ⟨x, hx, rfl⟩ := List.mem_map.mp hm
      obtain ⟨j, hj⟩ := List.mem_iff_getElem?.mp hx
      have := atKey_of_get N.nod (i := j) (k := x.1) (p := x.2) hj
      rw [this] at hs
      cases hs
    refine ⟨bs ++ [.ref b], us ++ [v], ⟨N.sys, by simp only [List.length_append, List.length_singleton]; exact hl, ?_, ?_, ?_, ?_⟩, r1.append (by simp only [Reps]; exact ⟨_, _, rfl, rc, rfl⟩), r2.append (by simp only [Reps]; exact ⟨_, _, rfl, rd, rfl⟩)⟩
    · rw [List.map_append]
      refine List.nodup_append.mpr ⟨N.nod, by simp, ?_⟩
      intro x hx y hy
      simp at hy
      subst hy
      intro e
      exact hn (e ▸ hx)
    · rw [List.map_append, List.map_append, N.key]
      simp [ek]
    · rw [List.map_append, N.ref]
      rfl
    · rw [List.map_append]
      exact Paired.snoc N.val rv
theorem n_setItem {E : Value → Shared → Prop} {Q : Unit → Shared → Prop} (hu : X.A.units + 64 < cLine) (I : Inv X pins σ H s) (sr : SR X.kw al U S H) {m : Nat} {i v : V} {iv u : Value} {b d : D} {ks vs : List D} {k : NestedKey} (hm : m < S.length) (eo : S[m]? = some (.dcn ks vs)) (ri : RelV i iv) (rb : Rep X.kw al S.length U H b i)
    (rv : RelV v u) (rd : Rep X.kw al S.length U H d v) (ek : keyN b = some k) (hl : ks.length < sizeLine)
    (q : ∀ H' (s' : Shared), Inv X pins σ H' s' → Nxt al S.length H al (S.set m (.dcn (putN ks vs b k d).1 (putN ks vs b k d).2)).length H' → SR X.kw al U (S.set m (.dcn (putN ks vs b k d).1 (putN ks vs b k d).2)) H' → Q () s') :
    wpAny (model X.prog X.w) X.A (setItem (.ref (al m)) iv u) Q E s := by
  obtain ⟨xs, bs, us, h1, N, r1, r2⟩ := sr.obj m _ eo
  obtain ⟨a, rfl, rfl, hk⟩ := keyN_is I rb ri ek
  have full := nd_full I h1 N r1
  have hz : xs.length ≤ sizeLine := by
    have := congrArg List.length N.key
    simp at this
    have := N.len
    omega
  obtain ⟨n1, s1⟩ := sr.put hm (ho := .ext (ndP X.w (al m) (storedH xs k a u))) (o := .dcn (putN ks vs b k d).1 (putN ks vs b k d).2) fun g => by
    obtain ⟨bs', us', g1, g2, g3⟩ := putN_ok (vs := vs) N (Reps.nxt g _ _ r1) (Reps.nxt g _ _ r2) hl ek (Rep.nxt g _ _ rb) (Rep.nxt g _ _ rd) rv
    exact ⟨_, bs', us', upd_same, g1, g2, g3⟩
  refine wpAny_setItem_heap (hsz := hz) (nd_room hu) hk full fun h' dd' hs => q _ _ ?_ n1 s1
  obtain ⟨o, es, ep, q1, q2, q3, q4, _, _⟩ := dd'
  exact d_write I (by rw [h1]; exact True.intro) hs ⟨o, q1⟩ (nd_ok ⟨o, es, ep, q1, q2, q3, q4⟩)
end
section
variable {X : Cx} {pins : List (Addr × Obj)} {σ : L2.St} {H : Hp} {s : Shared} {al : Nat → Addr} {n : Nat} {U : List Addr}
theorem n_get2 {Q : VK} (hu : X.A.units + 64 < cLine) (I : Inv X pins σ H s) {y z : V} {u r : Value} {a x : D} {i : Addr} {ks vs : List D} {k : NestedKey} (ry : RelV y u) (rz : RelV z r) (ra : Rep X.kw al n U H a y) (rx : Rep X.kw al n U H x z) (ho : ObjRep X.kw al n U H i (.dcn ks vs)) (ek : keyN a = some k)
    (q : ∀ v, Rep X.kw al n U H ((findN ks vs k).getD x) v → Q v H) : wpAny (model X.prog X.w) X.A (call (.builtin "dict.get") [.ref i, u, r]) (EP X pins σ Q) X.xe s := by
  obtain ⟨xs, bs, us, h1, N, r1, r2⟩ := ho
  obtain ⟨b, rfl, rfl, hk⟩ := keyN_is I ra ry ek
  have full := nd_full I h1 N r1
  obtain ⟨_, f2, f3⟩ := findN_at (k := k) N.key r2 N.val
  refine call_meetsIn PySem.F.slot_dict_get full.typeIs PySem.F.entry_dict_get (PySem.F.args_dict_get_3 _ _ _) (meetsH_dict_get_default (nestedKind X.prog X.w) i b N.sys r) ⟨nd_room hu, k, xs, hk, full, ?_⟩
  cases hf : findN ks vs k with
  | none =>
    rw [hf] at q
    rw [f3 hf]
    exact ⟨z, H, I.tok _, rz, q z rx⟩
  | some d =>
    rw [hf] at q
    obtain ⟨p, w, e1, e2, e3⟩ := f2 d hf
    rw [e1]
    exact ⟨w, H, I.tok _, e3, q w e2⟩
theorem n_setdef {Q : VK} (hu : X.A.units + 64 < cLine) (I : Inv X pins σ H s) {S : Store} (sr : SR X.kw al U S H) {m : Nat} {y z : V} {u r : Value} {a x : D} {ks vs : List D} {k : NestedKey} (hm : m < S.length) (eo : S[m]? = some (.dcn ks vs)) (ry : RelV y u) (rz : RelV z r) (ra : Rep X.kw al S.length U H a y) (rx : Rep X.kw al S.length U H x z) (ek : keyN a = some k)
    (q1 : ∀ d v, findN ks vs k = some d → Rep X.kw al S.length U H d v → Q v H)
    (q2 : findN ks vs k = none → ks.length < sizeLine ∧ ∀ H', Nxt al S.length H al (S.set m (.dcn (putN ks vs a k x).1 (putN ks vs a k x).2)).length H' → SR X.kw al U (S.set m (.dcn (putN ks vs a k x).1 (putN ks vs a k x).2)) H' → Q z H') :
    wpAny (model X.prog X.w) X.A (call (.builtin "dict.setdefault") [.ref (al m), u, r]) (EP X pins σ Q) X.xe s := by
  obtain ⟨xs, bs, us, h1, N, r1, r2⟩ := sr.obj m _ eo
  obtain ⟨b, rfl, rfl, hk⟩ := keyN_is I ra ry ek
  have full := nd_full I h1 N r1
  obtain ⟨f1, f2, f3⟩ := findN_at (k := k) N.key r2 N.val
  have hz : xs.length ≤ sizeLine := by
    have := congrArg List.length N.key
    simp at this
    have := N.len
    omega
  refine call_setdefault_heap (hsz := hz) (nd_room hu) hk N.sys full (fun p hp => ?_) fun hn h' dd' hs => ?_
  · cases hf : findN ks vs k with
    | none => rw [f3 hf] at hp; cases hp
    | some d =>
      obtain ⟨p', w, e1, e2, e3⟩ := f2 d hf
      rw [hp] at e1
      cases e1
      exact ⟨w, H, I.tok _, e3, q1 d w hf e2⟩
  · have hf : findN ks vs k = none := by
      cases hf : findN ks vs k with
      | none => rfl
      | some d =>
        obtain ⟨p', w, e1, _⟩ := f2 d hf
        rw [hn] at e1
        cases e1
    obtain ⟨hl, q2⟩ := q2 hf
    obtain ⟨n1, s1⟩ := sr.put hm (ho := .ext (ndP X.w (al m) (storedH xs k b r))) (o := .dcn (putN ks vs a k x).1 (putN ks vs a k x).2) fun g => by
      obtain ⟨bs', us', g1, g2, g3⟩ := putN_ok (vs := vs) N (Reps.nxt g _ _ r1) (Reps.nxt g _ _ r2) hl ek (Rep.nxt g _ _ ra) (Rep.nxt g _ _ rx) rz
      exact ⟨_, bs', us', upd_same, g1, g2, g3⟩
    obtain ⟨o, es, ep, q1', q2', q3', q4', _, _⟩ := dd'
    exact ⟨z, _, d_write I (by rw [h1]; exact True.intro) hs ⟨o, q1'⟩ (nd_ok ⟨o, es, ep, q1', q2', q3', q4'⟩), rz, q2 _ n1 s1⟩
theorem nd_type (I : Inv X pins σ H s) {a : Addr} {xs : List (NestedKey × Addr × Value)} (e : H a = some (.ext (ndP X.w a xs))) : s.TypeIs (.ref a) "dict" ∧ ∃ ob, s.heap.get? a = some ob ∧ ob.dict = none := by
  obtain ⟨o, es, ep, h1, h2, h3, h4⟩ := (show ObjOk X.prog X.w H s.heap a (.ext (ndP X.w a xs)) from I.hok a _ e).1
  exact ⟨⟨o, h1, h2.1⟩, o, h1, h2.2.1⟩
end
/-! ### sorted of one thing -/
section
variable {prog : Program} {w : World} {A : Around} {E : Value → Shared → Prop} {s : Shared}
theorem sort1_tree {l : Addr} {v : Value} {m : Nat} {P : Fin → Shared → Prop} (hl : s.heap.get? l = some (seqObj "list" #[v] m)) (h : P (.done (.ret .none)) { s with heap := sortedHeap s.heap l [v] #[v] }) :
    wpAny (model prog w) A (Builtin.«list.sort» ⟨[.ref l], []⟩) P E s := by
  rw [list_sort_plain]
  have lt := Heap.lt_size hl
  have z1 : (1 : Nat) ≤ sizeLine := by decide
  obtain ⟨m1, g1⟩ : ∃ m1, (s.heap.update l (Obj.mapSeq fun _ => #[])).get? l = some (seqObj "list" #[] m1) := ⟨_, get?_update_seq hl (fun _ => #[])⟩
  have g2 : (((s.heap.update l (Obj.mapSeq fun _ => #[])).push (seqObj "tuple" [v].toArray 0)).push (seqObj "list" #[] 0)).get? l = some (seqObj "list" #[] m1) := by
    have n1 : l ≠ (s.heap.update l (Obj.mapSeq fun _ => #[])).objs.size := by rw [Heap.size_update]; exact Nat.ne_of_lt lt
    have n2 : l ≠ ((s.heap.update l (Obj.mapSeq fun _ => #[])).push (seqObj "tuple" [v].toArray 0)).objs.size := by rw [size_push', Heap.size_update]; exact Nat.ne_of_lt (Nat.lt_succ_of_lt lt)
    exact (Heap.get?_push_ne _ _ _ n2).trans ((Heap.get?_push_ne _ _ _ n1).trans g1)
  refine wpAny_bind (listItems_at hl rfl ?_)
  refine wpAny_bind (listUpdate_at hl rfl ?_ (hsz := z1) (hsz2 := Nat.zero_le _))
  refine wpAny_bind (seqEpoch_at g1 rfl ?_)
  refine wpAny_bind (wpAny_newTuple (wpAny_bind (wpAny_newList (wpAny_holding ?_))))
  dsimp only
  show wpAny (model prog w) A _ P E { s with heap := ((s.heap.update l (Obj.mapSeq fun _ => #[])).push (seqObj "tuple" [v].toArray 0)).push (seqObj "list" #[] 0) }
  have e2 : (#[v] : Array Value).size < 2 := Nat.lt_succ_self 1
  have ez : Array.map (fun x => x.2) (arrOf (SortSt.mk' general' (#[v].zip #[v]) #[] 7 none)) = #[v] := by
    show Array.map (fun x : Value × Value => x.2) (#[v].zip #[v]) = #[v]
    simp
  rw [if_pos e2, if_pos e2]
  apply wpAny_bind
  refine wpAny_pure ?_
  rw [StateT.run_pure]
  apply wpAny_bind
  refine wpAny_pure ?_
  dsimp only
  rw [ez]
  refine wpAny_bind (seqEpoch_at g2 rfl ?_)
  refine wpAny_bind (listUpdate_at g2 rfl ?_ (hsz := Nat.zero_le _) (hsz2 := Nat.le_succ_of_le z1))
  simp only [bne_self_eq_false, Bool.false_eq_true, if_false]
  exact wpAny_pure h
theorem sorted1 {l : Addr} {v : Value} {Q : Value → Shared → Prop} (hl : s.heap.IsList l [v].toArray) (h : Q (.ref (s.heap.objs.size + 1)) { s with heap := sortedAll s.heap [v] #[v] }) :
    wpAny (model prog w) A (call (.builtin "sorted") [.ref l]) Q E s := by
  have z1 : ([v] : List Value).length ≤ sizeLine := by show 1 ≤ sizeLine; decide
  refine Calls.call_function_entry kind_sorted plain_sorted entry_sorted (args_sorted1 _) ?_
  unfold Builtin.«sorted»
  refine wpAny_bind (m := checkCount "sorted" 1 1 _) (wpAny_pure (wpAny_bind (collect_list hl (wpAny_bind (wpAny_newList ?_ z1)) z1)))
  have sz : ((s.heap.push (seqObj "list" #[] 0)).update s.heap.objs.size (Obj.mapSeq (· ++ [v].toArray))).objs.size = s.heap.objs.size + 1 := (Heap.size_update ..).trans (size_push' ..)
  have g : (((s.heap.push (seqObj "list" #[] 0)).update s.heap.objs.size (Obj.mapSeq (· ++ [v].toArray))).push (seqObj "list" [v].toArray 0)).get? (s.heap.objs.size + 1) = some (seqObj "list" [v].toArray 0) := by
    rw [← sz]
    exact Heap.get?_push_size _ rfl
  show wpAny _ _ _ _ _ { s with heap := ((s.heap.push (seqObj "list" #[] 0)).update s.heap.objs.size (Obj.mapSeq (· ++ [v].toArray))).push (seqObj "list" [v].toArray 0) }
  rw [sz]
  exact wpAny_bind (wpAny_holding (wpAny_call_entry slot_list_sort ⟨_, g, rfl⟩ entry_list_sort (sort1_tree g ⟨_, rfl, wpAny_pure ⟨_, rfl, h⟩⟩) (args_list_sort _)))
end
theorem cr_sorted1 {X : Cx} : CallR X (.builtin "sorted") (fun vs H Q => ∃ (a : Addr) (x : V), vs = [V.ref a] ∧ SqL X.kw H a [x] ∧ ∀ p, H p = none → Q (.ref p) (upd H p (.lst [x]))) := by
  intro pins s σ H vs us Q I r h
  obtain ⟨a, x, rfl, hs, q⟩ := h
  obtain ⟨its, rv, hl, _⟩ := I.list hs
  rw [Vals.ref1 r]
  cases rv with
  | @cons _ u _ _ ru t =>
    cases t
    refine sorted1 hl.isList ?_
    obtain ⟨ep, hp⟩ := sortedAll_at s.heap [u] #[u]
    exact ⟨.ref _, upd H (s.heap.objs.size + 1) (.lst [x]), I.laid (t' := s.toks) (fun _ _ => sortedAll_old) (Nat.le_succ _) ⟨by show 1 ≤ sizeLine; decide, [u], ep, .cons ru .nil, hp⟩, rfl, q _ (I.hok.fresh (Nat.le_succ _))⟩
end Z

set_option Elab.async false
set_option linter.all false
set_option maxRecDepth 100000
set_option maxHeartbeats 4000000
/-! Cmps: comparisons by values. -/
namespace Z
open PySem L2 PySem.Spec PyProof.Rows

theorem toS_inj {x y : List Char} (h : toS x = toS y) : x = y := by
  have h1 : (x.map Char.toNat).toArray = (y.map Char.toNat).toArray := by injection h
  have h2 : x.map Char.toNat = y.map Char.toNat := by simpa using h1
  exact List.map_inj_right (fun a b e => Char.toNat_inj.mp e) |>.mp h2
theorem toS_beq (x y : List Char) : (toS x == toS y) = decide (x = y) := by
  by_cases h : x = y
  · subst h; simp
  · rw [decide_eq_false h]
    have : toS x ≠ toS y := fun e => h (toS_inj e)
    simpa using this

mutual
theorem okD_lay : ∀ (n : Nat) (d : D), okD n d = true → d.py.canLay0 = true ∧ d.py.depth ≤ n
  | 0, _, h => by simp [okD] at h
  | n + 1, .non, _ => by simp [D.py, PyData.canLay0, PyData.depth]
  | n + 1, .bl _, _ => by simp [D.py, PyData.canLay0, PyData.depth]
  | n + 1, .int _, _ => by simp [D.py, PyData.canLay0, PyData.depth]
  | n + 1, .str s, _ => by
    refine ⟨?_, by simp [D.py, PyData.depth]⟩
    simp only [D.py, PyData.canLay0, PyData.strOk]
    simp only [List.all_toArray, List.all_map, List.all_eq_true, Function.comp, decide_eq_true_eq]
    intro c _
    have := c.valid
    have h2 : c.toNat = c.val.toNat := rfl
    rcases this with h | h
    · have : c.val.toNat < 0xd800 := h
      show c.toNat < 0x110000
      omega
    · have : c.val.toNat < 0x110000 := h.2
      show c.toNat < 0x110000
      omega
  | n + 1, .tup ds, h => by
    simp only [okD] at h
    obtain ⟨a, b⟩ := okD_lays n ds h
    exact ⟨by simpa [D.py, PyData.canLay0] using a, by simp only [D.py, PyData.depth]; omega⟩
  | n + 1, .lst ds, h => by
    simp only [okD] at h
    obtain ⟨a, b⟩ := okD_lays n ds h
    exact ⟨by simpa [D.py, PyData.canLay0] using a, by simp only [D.py, PyData.depth]; omega⟩
  | n + 1, .ref _, h => by simp [okD] at h
theorem okD_lays : ∀ (n : Nat) (ds : List D), ds.all (okD n) = true → PyData.canLayAll0 (D.pys ds) = true ∧ PyData.depthAll (D.pys ds) ≤ n
  | n, [], _ => by simp [D.pys, PyData.canLayAll0, PyData.depthAll]
  | n, d :: ds, h => by
    rw [List.all_cons, Bool.and_eq_true] at h
    obtain ⟨a, b⟩ := okD_lay n d h.1
    obtain ⟨a2, b2⟩ := okD_lays n ds h.2
    refine ⟨by simp [D.pys, PyData.canLayAll0, a, a2], ?_⟩
    simp only [D.pys, PyData.depthAll]
    omega
end
theorem okD_shaped {d : D} (h : okD 60 d = true) : SeqAt.shaped d.py = true := by
  obtain ⟨a, b⟩ := okD_lay 60 d h
  unfold SeqAt.shaped
  rw [a, Bool.true_and, decide_eq_true_eq]
  omega
section
variable {K : KW} {al : Nat → Addr} {n : Nat} {U : List Addr} {S : Store} {H : Hp}
mutual
theorem Rep.dp : ∀ (m : Nat) (d : D) (v : V), okD m d = true → Rep K al n U H d v → Dp K H v d.py
  | 0, _, _, h, _ => by simp [okD] at h
  | m + 1, .non, v, _, r => by simp only [Rep] at r; subst r; exact .non
  | m + 1, .bl b, v, _, r => by simp only [Rep] at r; subst r; exact .bl b
  | m + 1, .int i, v, _, r => by simp only [Rep] at r; subst r; exact .int i
  | m + 1, .str s, v, _, r => by simp only [Rep] at r; rw [r.1]; exact .str _
  | m + 1, .tup ds, v, h, r => by
    simp only [Rep] at r
    simp only [okD] at h
    obtain ⟨a, vs, rfl, t, l, rs⟩ := r
    simp only [D.py]
    exact .tup t.sq (Reps.dp m ds vs h rs)
  | m + 1, .lst ds, v, h, r => by
    simp only [Rep] at r
    simp only [okD] at h
    obtain ⟨a, vs, rfl, t, l, rs⟩ := r
    simp only [D.py]
    exact .lst t.sq (Reps.dp m ds vs h rs)
  | m + 1, .ref _, _, h, _ => by simp [okD] at h
theorem Reps.dp : ∀ (m : Nat) (ds : List D) (vs : List V), ds.all (okD m) = true → Reps K al n U H ds vs → DpAll K H vs (D.pys ds)
  | m, [], vs, _, r => by simp only [Reps] at r; subst r; exact .nil
  | m, d :: ds, vs, h, r => by
    simp only [Reps] at r
    obtain ⟨v, r', rfl, r1, r2⟩ := r
    rw [List.all_cons, Bool.and_eq_true] at h
    exact .cons (Rep.dp m d v h.1 r1) (Reps.dp m ds r' h.2 r2)
end
theorem Rep.deref (sr : SR K al U S H) {d : D} {v : V} (r : Rep K al S.length U H d v) (h : okD 60 (deref S d) = true) : Dp K H v (deref S d).py := by
  cases d with
  | ref i =>
    simp only [Rep] at r
    obtain ⟨hi, rfl⟩ := r
    cases e : S[i]? with
    | none => simp [Z.deref, e, okD] at h
    | some o =>
      cases o with
      | lst ds =>
        obtain ⟨vs, q, l, rs⟩ := sr.obj i _ e
        simp only [Z.deref, e, D.py] at h ⊢
        simp only [okD] at h
        exact .lst (SqL.of q) (Reps.dp 59 ds vs h rs)
      | dct _ _ => simp [Z.deref, e, okD] at h
      | dcn _ _ => simp [Z.deref, e, okD] at h
      | ins _ _ => simp [Z.deref, e, okD] at h
  | _ => exact Rep.dp 60 _ v h r
theorem flatD_V {d : D} {v : V} (r : Rep K al n U H d v) (h : flatD d = true) : flatV v = true := by
  cases d with
  | non => simp only [Rep] at r; subst r; rfl
  | bl _ => simp only [Rep] at r; subst r; rfl
  | int _ => simp only [Rep] at r; subst r; rfl
  | str _ => simp only [Rep] at r; rw [r.1]; rfl
  | _ => cases h
theorem flatD_eq {d e : D} {v u : V} (r : Rep K al n U H d v) (h : flatD d = true) (r2 : Rep K al n U H e u) (h2 : flatD e = true) : eqV v u = eqD d e := by
  cases d with
  | non =>
    simp only [Rep] at r; subst r
    cases e with
    | non => simp only [Rep] at r2; subst r2; rfl
    | bl _ => simp only [Rep] at r2; subst r2; rfl
    | int _ => simp only [Rep] at r2; subst r2; rfl
    | str _ => simp only [Rep] at r2; rw [r2.1]; rfl
    | _ => cases h2
  | bl b =>
    simp only [Rep] at r; subst r
    cases e with
    | non => simp only [Rep] at r2; subst r2; rfl
    | bl _ => simp only [Rep] at r2; subst r2; rfl
    | int _ => simp only [Rep] at r2; subst r2; rfl
    | str _ => simp only [Rep] at r2; rw [r2.1]; rfl
    | _ => cases h2
  | int _ =>
    simp only [Rep] at r; subst r
    cases e with
    | non => simp only [Rep] at r2; subst r2; rfl
    | bl _ => simp only [Rep] at r2; subst r2; rfl
    | int _ => simp only [Rep] at r2; subst r2; rfl
    | str _ => simp only [Rep] at r2; rw [r2.1]; rfl
    | _ => cases h2
  | str _ =>
    simp only [Rep] at r; rw [r.1]
    cases e with
    | non => simp only [Rep] at r2; subst r2; rfl
    | bl _ => simp only [Rep] at r2; subst r2; rfl
    | int _ => simp only [Rep] at r2; subst r2; rfl
    | str _ => simp only [Rep] at r2; rw [r2.1]; rfl
    | _ => cases h2
  | _ => cases h
theorem flatD_in {d : D} {v : V} (r : Rep K al n U H d v) (h : flatD d = true) : ∀ {ds : List D} {vs : List V}, Reps K al n U H ds vs → ds.all flatD = true → vs.all flatV = true ∧ inV v vs = inD d ds
  | [], vs, rs, _ => by simp only [Reps] at rs; subst rs; exact ⟨rfl, rfl⟩
  | e :: es, vs, rs, hs => by
    simp only [Reps] at rs
    obtain ⟨u, us, rfl, r1, r2⟩ := rs
    rw [List.all_cons, Bool.and_eq_true] at hs
    obtain ⟨a, b⟩ := flatD_in r h r2 hs.2
    refine ⟨by rw [List.all_cons, flatD_V r1 hs.1, a]; rfl, ?_⟩
    unfold inV inD at b ⊢
    rw [List.any_cons, List.any_cons, b, flatD_eq r1 hs.1 r h]
theorem keyOk_rep {d : D} {v : V} (r : Rep K al n U H d v) (h : keyOk d = true) : ∃ k : Key, keyD d = some k ∧ v = kV k := by
  cases d with
  | int i => simp only [Rep] at r; subst r; exact ⟨.inl i, rfl, rfl⟩
  | str s => simp only [Rep] at r; rw [r.1]; exact ⟨.inr (toS s), rfl, rfl⟩
  | _ => cases h
theorem keyOk_eq {d e : D} (h : keyOk d = true) (h2 : keyOk e = true) : eqD d e = decide (keyD d = keyD e) := by
  cases d with
  | int i =>
    cases e with
    | int j =>
      show (i == j) = decide (some (Sum.inl i) = some (Sum.inl j))
      rw [Bool.eq_iff_iff]; simp
    | str _ => rfl
    | _ => cases h2
  | str s =>
    cases e with
    | int j => rfl
    | str t =>
      show (toS s == toS t) = decide (some (Sum.inr (toS s)) = some (Sum.inr (toS t)))
      rw [Bool.eq_iff_iff]; simp
    | _ => cases h2
  | _ => cases h
/-- the keys of a dict: what is found -/
theorem findK_val {a : D} {k : Key} (ha : keyOk a = true) (ek : keyD a = some k) : ∀ {ks vs : List D} {kvs : List (Key × V)}, ks.all keyOk = true → ks.map keyD = kvs.map (fun p => some p.1) → Reps K al n U H vs (kvs.map (·.2)) →
    (inD a ks = (valV kvs k).isSome) ∧ ∀ d, findK ks vs a = some d → ∃ v, valV kvs k = some v ∧ Rep K al n U H d v
  | [], vs, [], _, _, _ => by
    refine ⟨rfl, fun d h => ?_⟩
    unfold findK at h
    cases h
  | [], vs, p :: kvs, _, e, _ => by simp at e
  | c :: ks, vs, [], _, e, _ => by simp at e
  | c :: ks, vs, p :: kvs, hk, e, rs => by
    rw [List.all_cons, Bool.and_eq_true] at hk
    simp only [List.map_cons, List.cons.injEq] at e
    cases vs with
    | nil => simp only [Reps] at rs; cases rs
    | cons w ws =>
      simp only [List.map_cons, Reps] at rs
      obtain ⟨v, r, e2, r1, r2⟩ := rs
      simp only [List.cons.injEq] at e2
      obtain ⟨ih1, ih2⟩ := findK_val ha ek hk.2 e.2 (by rw [e2.2]; exact r2)
      have q : eqD c a = decide (p.1 = k) := by
        rw [keyOk_eq hk.1 ha, ek, e.1]
        simp
      by_cases hp : p.1 = k
      · rw [decide_eq_true hp] at q
        refine ⟨?_, fun d h => ?_⟩
        · unfold inD
          rw [List.any_cons, q, valV_pos hp]
          rfl
        · unfold findK at h
          rw [q, if_pos rfl] at h
          cases h
          exact ⟨p.2, valV_pos hp, by rw [e2.1]; exact r1⟩
      · rw [decide_eq_false hp] at q
        refine ⟨?_, fun d h => ?_⟩
        · unfold inD at ih1 ⊢
          rw [List.any_cons, q, valV_neg hp, ih1]
          rfl
        · unfold findK at h
          rw [q, if_neg Bool.false_ne_true] at h
          rw [valV_neg hp]
          exact ih2 d h
end

theorem ltS_lex : ∀ x y : List Char, decide ((toS x).cps.toList < (toS y).cps.toList) = ltS x y := by
  intro x y
  have : ∀ x y : List Char, (x.map Char.toNat < y.map Char.toNat) ↔ ltS x y = true := by
    intro x
    induction x with
    | nil =>
      intro y
      cases y with
      | nil => simp [ltS]
      | cons b y => simp [ltS]
    | cons a x ih =>
      intro y
      cases y with
      | nil => simp [ltS]
      | cons b y =>
        simp only [List.map_cons, List.cons_lt_cons_iff, ltS, ih y]
        by_cases h1 : a.toNat < b.toNat
        · simp [h1]
        · by_cases h2 : b.toNat < a.toNat
          · have : a.toNat ≠ b.toNat := by omega
            simp [h1, h2, this]
          · have : a.toNat = b.toNat := by omega
            simp [h1, h2, this]
  have h := this x y
  show decide ((x.map Char.toNat).toArray.toList < (y.map Char.toNat).toArray.toList) = _
  simp only [List.toList_toArray]
  cases e : ltS x y with
  | true => exact decide_eq_true (h.mpr e)
  | false => exact decide_eq_false (fun q => by rw [h.mp q] at e; cases e)
def cmA : Cm → CmpOp
  | .eq => .Eq | .ne => .NotEq | .lt => .Lt | .le => .LtE | .gt => .Gt | .ge => .GtE | .isIn => .In | .notIn => .NotIn | .isNone => .Is | .notNone => .IsNot | .isTrue => .Is | .notTrue => .IsNot
section
variable {X : Cx}
theorem sgn_mem (c : Char) (y : List Char) : decide (c.toNat ∈ (toS y).cps.toList) = decide (c ∈ y) := by
  rw [Bool.eq_iff_iff]
  simp only [decide_eq_true_eq]
  show c.toNat ∈ (y.map Char.toNat).toArray.toList ↔ _
  simp only [List.mem_map]
  constructor
  · rintro ⟨d, h, e⟩
    rw [← Char.toNat_inj.mp e]
    exact h
  · intro h
    exact ⟨c, h, rfl⟩
theorem pys_any (d : PyData) : ∀ ds : List D, ((D.pys ds).any fun z => PyData.eqv z d) = ds.any fun z => PyData.eqv z.py d
  | [] => rfl
  | x :: ds => by
    show (PyData.eqv x.py d || (D.pys ds).any fun z => PyData.eqv z d) = _
    rw [pys_any d ds]
    rfl
theorem mem_D (neg : Bool) (hu : X.A.units + 64 < cLine) {pins : List (Addr × Obj)} {s : Shared} {σ : L2.St} {H : Hp} {x y : V} {v u : Value} {Q : VK} (I : Inv X pins σ H s) (rx : RelV x v) (ry : RelV y u) {al : Nat → Addr} {U : List Addr} {S : Store} {a b : D} {k : Bool}
    (sr : SR X.kw al U S H) (ra : Rep X.kw al S.length U H a x) (rb : Rep X.kw al S.length U H b y) (e : memD S a b = some k) (q : Q (.bl (if neg then !k else k)) H) :
    wpAny (model X.prog X.w) X.A (compareOp (if neg then .NotIn else .In) v u) (EP X pins σ Q) X.xe s := by
  have seq : ∀ (p : Addr) (ds : List D) (vs : List V), y = .ref p → (SqL X.kw H p vs ∨ SqT X.kw H p vs) → Reps X.kw al S.length U H ds vs → flatD a = true ∧ ds.all flatD = true → inD a ds = k →
      wpAny (model X.prog X.w) X.A (compareOp (if neg then .NotIn else .In) v u) (EP X pins σ Q) X.xe s := by
    intro p ds vs ey hs rs hf ek
    obtain ⟨f1, f2⟩ := flatD_in ra hf.1 rs hf.2
    cases neg with
    | false => exact op_in_seq pins s σ H x y v u Q I rx ry ⟨p, vs, ey, hs, flatD_V ra hf.1, f1, by rw [f2, ek]; exact q⟩
    | true => exact op_notIn_seq pins s σ H x y v u Q I rx ry ⟨p, vs, ey, hs, flatD_V ra hf.1, f1, by rw [f2, ek]; exact q⟩
  have deep : ∀ (p : Addr) (ds : List D) (vs : List V), y = .ref p → (SqL X.kw H p vs ∨ SqT X.kw H p vs) → Reps X.kw al S.length U H ds vs → okD 60 a = true ∧ ds.all (okD 59) = true → inD a ds = k →
      wpAny (model X.prog X.w) X.A (compareOp (if neg then .NotIn else .In) v u) (EP X pins σ Q) X.xe s := by
    intro p ds vs ey hs rs hd ek
    obtain ⟨as1, r1⟩ := Dp.reads I a.py x v (Rep.dp 60 a x hd.1 ra) rx
    obtain ⟨la, da⟩ := okD_lay 60 a hd.1
    have hl : okD 60 (.lst ds) = true := by simp only [okD]; exact hd.2
    obtain ⟨ll, _⟩ := okD_lay 60 (.lst ds) hl
    have hls : PyData.canLayAll0 (D.pys ds) = true := ll
    have room : X.A.units + 1 + min (PyData.depthAll (D.pys ds)) a.py.depth < cLine := by
      have := Nat.min_le_right (PyData.depthAll (D.pys ds)) a.py.depth
      omega
    have q' : Q (.bl (if neg then !((D.pys ds).any fun z => PyData.eqv z a.py) else (D.pys ds).any fun z => PyData.eqv z a.py)) H := by
      rw [pys_any]
      show Q (.bl (if neg then !inD a ds else inD a ds)) H
      rw [ek]
      exact q
    rcases hs with hs | hs
    · obtain ⟨as2, r2⟩ := Dp.reads I (.list (D.pys ds)) y u (by rw [ey]; exact .lst hs (Reps.dp 59 ds vs hd.2 rs)) ry
      cases neg with
      | false => exact SeqAt.in_list_reads r2 r1 hls la room ⟨.bl _, H, I, rfl, q'⟩
      | true => exact SeqAt.notIn_list_reads r2 r1 hls la room ⟨.bl _, H, I, rfl, q'⟩
    · obtain ⟨as2, r2⟩ := Dp.reads I (.tuple (D.pys ds)) y u (by rw [ey]; exact .tup hs (Reps.dp 59 ds vs hd.2 rs)) ry
      cases neg with
      | false => exact SeqAt.in_tuple_reads r2 r1 hls la room ⟨.bl _, H, I, rfl, q'⟩
      | true => exact SeqAt.notIn_tuple_reads r2 r1 hls la room ⟨.bl _, H, I, rfl, q'⟩
  cases b with
  | str ys =>
    unfold memD at e
    cases a with
    | str xs =>
      match xs, e with
      | [], e => simp at e
      | _ :: _ :: _, e => simp at e
      | [c], e =>
        have e : decide (c ∈ ys) = k := by simpa using e
        simp only [Rep] at ra rb
        cases neg with
        | false => exact op_in_sign pins s σ H x y v u Q I rx ry ⟨c.toNat, _, ra.1, rb.1, by rw [sgn_mem, e]; exact q⟩
        | true => exact op_notIn_sign pins s σ H x y v u Q I rx ry ⟨c.toNat, _, ra.1, rb.1, by rw [sgn_mem, e]; exact q⟩
    | _ => simp at e
  | tup ds =>
    unfold memD at e
    simp only [Rep] at rb
    obtain ⟨p, vs, ey, t, l, rs⟩ := rb
    simp only at e
    split at e
    · rename_i hf
      exact seq p ds vs ey (.inr t.sq) rs hf (by simpa using e)
    · split at e
      · rename_i hd
        exact deep p ds vs ey (.inr t.sq) rs hd (by simpa using e)
      · cases e
  | lst ds =>
    unfold memD at e
    simp only [Rep] at rb
    obtain ⟨p, vs, ey, t, l, rs⟩ := rb
    simp only at e
    split at e
    · rename_i hf
      exact seq p ds vs ey (.inl t.sq) rs hf (by simpa using e)
    · split at e
      · rename_i hd
        exact deep p ds vs ey (.inl t.sq) rs hd (by simpa using e)
      · cases e
  | ref m =>
    unfold memD at e
    simp only [Rep] at rb
    obtain ⟨hm, ey⟩ := rb
    simp only at e
    split at e
    · rename_i ds ed
      obtain ⟨vs, h1, l, rs⟩ := sr.obj m _ ed
      split at e
      · rename_i hf
        exact seq _ ds vs ey (.inl (SqL.of h1)) rs hf (by simpa using e)
      · split at e
        · rename_i hd
          exact deep _ ds vs ey (.inl (SqL.of h1)) rs hd (by simpa using e)
        · cases e
    · rename_i ks vs ed
      obtain ⟨kvs, h1, l, r1, r2, r3, r4⟩ := sr.obj m _ ed
      split at e
      · rename_i hf
        obtain ⟨ky, ek, ex⟩ := keyOk_rep ra hf.1
        obtain ⟨f1, _⟩ := findK_val hf.1 ek hf.2 r1 r2
        have e : inD a ks = k := by simpa using e
        subst ey
        obtain rfl : u = Value.ref (al m) := ry
        rw [e] at f1
        cases neg with
        | false => exact d_in (by omega) I (ex ▸ DGet.k h1) rx fun s3 I3 => ⟨.bl k, H, I3, by rw [f1]; rfl, q⟩
        | true => exact d_notIn (by omega) I (ex ▸ DGet.k h1) rx fun s3 I3 => ⟨.bl (!k), H, I3, by rw [f1]; rfl, q⟩
      · cases e
    · rename_i ks vs ed
      obtain ⟨ky, ek, ex⟩ := Option.map_eq_some_iff.mp e
      subst ey
      obtain rfl : u = Value.ref (al m) := ry
      exact n_mem neg hu I rx ra (sr.obj m _ ed) ek (by rw [ex]; exact q)
    · cases e
  | _ => unfold memD at e; cases e

theorem isNon_rep {K : KW} {al : Nat → Addr} {n : Nat} {U : List Addr} {H : Hp} {a : D} {x : V} (r : Rep K al n U H a x) : decide (x = .non) = isNonD a := by
  cases a with
  | non => simp only [Rep] at r; subst r; rfl
  | bl _ => simp only [Rep] at r; subst r; rfl
  | int _ => simp only [Rep] at r; subst r; rfl
  | str _ => simp only [Rep] at r; rw [r.1]; rfl
  | tup _ => simp only [Rep] at r; obtain ⟨_, _, rfl, _⟩ := r; rfl
  | lst _ => simp only [Rep] at r; obtain ⟨_, _, rfl, _⟩ := r; rfl
  | ref _ => simp only [Rep] at r; rw [r.2]; rfl
  | fn _ => simp only [Rep] at r; obtain ⟨_, rfl, _⟩ := r; rfl
  | exc _ => simp only [Rep] at r; obtain ⟨_, rfl, _⟩ := r; rfl
theorem cmp_D (hu : X.A.units + 64 < cLine) (o : Cm) : OpR X (compareOp (cmA o)) (tOpD X.kw (cmpD o)) := by
  intro pins s σ H x y v u Q I rx ry ⟨al, U, S, a, b, d, S', sr, ra, rb, e, q⟩
  have q' : ∀ k : Bool, R.ok (D.bl k, S) = R.ok (d, S') → Q (.bl k) H := fun k h => by
    cases h
    exact q _ _ _ .refl sr (by simp only [Rep])
  cases o with
  | eq =>
    simp only [cmpD] at e
    split at e
    · rename_i h
      exact op_eqD hu pins s σ H x y v u Q I rx ry ⟨_, _, Rep.deref sr ra h.1, Rep.deref sr rb h.2, okD_shaped h.1, okD_shaped h.2, q' _ e⟩
    · cases e
  | ne =>
    simp only [cmpD] at e
    split at e
    · rename_i h
      exact op_neD hu pins s σ H x y v u Q I rx ry ⟨_, _, Rep.deref sr ra h.1, Rep.deref sr rb h.2, okD_shaped h.1, okD_shaped h.2, q' _ e⟩
    · split at e
      · rename_i h
        unfold dctS at h
        split at h
        · rename_i n z _
          split at h
          · rename_i ks vs eo
            simp only [Rep] at ra rb
            obtain ⟨hn, rfl⟩ := ra
            obtain rfl : v = Value.ref (al n) := rx
            rw [rb.1] at ry
            obtain ⟨tk, rfl⟩ : ∃ tk, u = Value.str (toS z) tk := ry
            obtain ⟨kvs, h1, _⟩ := sr.obj n _ eo
            obtain ⟨_, _, vs', _, ob, es, ep, g1, ⟨c1, c2, c3⟩, g2, _⟩ := I.hok _ _ h1
            obtain ⟨cls, dd, data, sl⟩ := ob
            simp only at c1 c2 c3 g2
            subst c1 c2 c3 g2
            exact rc_dict_s (toS z) tk g1 (by omega) _ _ _ _ ⟨.bl true, H, I, rfl, q' _ e⟩
          · cases h
        · cases h
      · cases e
  | lt =>
    simp only [cmpD] at e
    split at e
    · rename_i k ek
      unfold ltD at ek
      split at ek
      · simp only [Rep] at ra rb
        cases ek
        exact op_lt pins s σ H x y v u Q I rx ry ⟨_, _, ra, rb, q' _ e⟩
      · simp only [Rep] at ra rb
        cases ek
        refine op_lt_str pins s σ H x y v u Q I rx ry ⟨_, _, ra.1, rb.1, ?_⟩
        exact Eq.mp (congrArg (fun k => Q (.bl k) H) (ltS_lex _ _).symm) (q' _ e)
      · split at ek
        · rename_i xs ys hh
          cases ek
          obtain ⟨as1, r1⟩ := Dp.reads I _ x v (Rep.dp 60 (.tup xs) x hh.1 ra) rx
          obtain ⟨as2, r2⟩ := Dp.reads I _ y u (Rep.dp 60 (.tup ys) y hh.2.1 rb) ry
          obtain ⟨_, da⟩ := okD_lay 60 _ hh.1
          have room : X.A.units + min (D.tup xs).py.depth (D.tup ys).py.depth < cLine := by
            have := Nat.min_le_left (D.tup xs).py.depth (D.tup ys).py.depth
            omega
          exact PySem.W.lt_data r1 r2 hh.2.2 (fun h => nomatch h) room ⟨.bl _, H, I, rfl, q' _ e⟩
        · cases ek
      · cases ek
    · cases e
  | le =>
    simp only [cmpD] at e
    split at e
    · simp only [Rep] at ra rb
      exact op_le pins s σ H x y v u Q I rx ry ⟨_, _, ra, rb, q' _ e⟩
    · cases e
  | gt =>
    simp only [cmpD] at e
    split at e
    · simp only [Rep] at ra rb
      exact op_gt pins s σ H x y v u Q I rx ry ⟨_, _, ra, rb, q' _ e⟩
    · cases e
  | ge =>
    simp only [cmpD] at e
    split at e
    · simp only [Rep] at ra rb
      exact op_ge pins s σ H x y v u Q I rx ry ⟨_, _, ra, rb, q' _ e⟩
    · cases e
  | isIn =>
    simp only [cmpD] at e
    split at e
    · rename_i k ek
      exact mem_D false (by omega) I rx ry sr ra rb ek (q' _ e)
    · cases e
  | notIn =>
    simp only [cmpD] at e
    split at e
    · rename_i k ek
      exact mem_D true (by omega) I rx ry sr ra rb ek (q' _ e)
    · cases e
  | isNone =>
    simp only [cmpD] at e
    split at e
    · simp only [Rep] at rb
      refine op_isN pins s σ H x y v u Q I rx ry ⟨rb, ?_⟩
      rw [isNon_rep ra]
      exact q' _ e
    · cases e
  | notNone =>
    simp only [cmpD] at e
    split at e
    · simp only [Rep] at rb
      refine op_notN pins s σ H x y v u Q I rx ry ⟨rb, ?_⟩
      rw [isNon_rep ra]
      exact q' _ e
    · cases e
  | isTrue =>
    simp only [cmpD] at e
    split at e
    · rename_i c k
      simp only [Rep] at ra rb
      refine op_isBl pins s σ H x y v u Q I rx ry ⟨_, _, ra, rb, ?_⟩
      have := q' _ e
      cases c <;> cases k <;> exact this
    · cases e
  | notTrue =>
    simp only [cmpD] at e
    split at e
    · rename_i c k
      simp only [Rep] at ra rb
      refine op_notBl pins s σ H x y v u Q I rx ry ⟨_, _, ra, rb, ?_⟩
      have := q' _ e
      cases c <;> cases k <;> exact this
    · cases e
end
end Z

set_option Elab.async false
set_option linter.all false
set_option maxRecDepth 100000
set_option maxHeartbeats 4000000
/-! Ev: readings told by the little language. -/
namespace Z
open PySem L2 PySem.Spec PyProof.Rows

def tEv (K : KW) (f : Env → Store → R (D × Store)) : TE := fun σ H Q => ∃ al U S rho d S',
  SR K al U S H ∧ ER K al S.length U H rho σ ∧ f rho S = .ok (d, S') ∧
  ∀ v H' al', Nxt al S.length H al' S'.length H' → SR K al' U S' H' → Rep K al' S'.length U H' d v → Q v H'
def tEvs (K : KW) (f : Env → Store → R (List D × Store)) : TA := fun σ H Q => ∃ al U S rho ds S',
  SR K al U S H ∧ ER K al S.length U H rho σ ∧ f rho S = .ok (ds, S') ∧
  ∀ vs H' al', Nxt al S.length H al' S'.length H' → SR K al' U S' H' → Reps K al' S'.length U H' ds vs → Q vs H'
def tEvT (K : KW) (f : Env → Store → R (D × Store)) : TT := fun σ H Q => ∃ al U S rho b S',
  SR K al U S H ∧ ER K al S.length U H rho σ ∧ f rho S = .ok (.bl b, S') ∧
  ∀ H' al', Nxt al S.length H al' S'.length H' → SR K al' U S' H' → Q b H'
def tEvP (K : KW) (f : Env → Store → R (Option Int × Store)) : TO := fun σ H Q => ∃ al U S rho o S',
  SR K al U S H ∧ ER K al S.length U H rho σ ∧ f rho S = .ok (o, S') ∧
  ∀ H' al', Nxt al S.length H al' S'.length H' → SR K al' U S' H' → Q o H'

theorem pe_weak {X : Cx} {e : Expr} {t t' : TE} (h : PE X e t) (w : ∀ σ H Q, t' σ H Q → t σ H Q) : PE X e t' := ⟨fun pins s σ H Q I q => h.run pins s σ H Q I (w _ _ _ q)⟩
theorem pt_weak {X : Cx} {e : Expr} {t t' : TT} (h : PT X e t) (w : ∀ σ H Q, t' σ H Q → t σ H Q) : PT X e t' := ⟨fun pins s σ H Q I q => h.run pins s σ H Q I (w _ _ _ q)⟩
theorem pw_weak {X : Cx} {e : Expr} {t t' : TT} (h : PW X e t) (w : ∀ σ H Q, t' σ H Q → t σ H Q) : PW X e t' := ⟨fun wh pins s σ H Q I q => h.run wh pins s σ H Q I (w _ _ _ q)⟩
theorem pa_weak {X : Cx} {e : List Expr} {t t' : TA} (h : PA X e t) (w : ∀ σ H Q, t' σ H Q → t σ H Q) : PA X e t' := ⟨fun pos pins s σ H Q I q => h.run pos pins s σ H Q I (w _ _ _ q)⟩
theorem po_weak {X : Cx} {e : Option Expr} {t t' : TO} (h : PO X e t) (w : ∀ σ H Q, t' σ H Q → t σ H Q) : PO X e t' := ⟨fun pins s σ H Q I q => h.run pins s σ H Q I (w _ _ _ q)⟩
theorem ps_weak {X : Cx} {e : Stmt} {t t' : TS} (h : PS X e t) (w : ∀ D σ H, t' D σ H → t D σ H) : PS X e t' := ⟨fun pins s σ H D I q => h.run pins s σ H D I (w _ _ _ q)⟩
theorem pss_weak {X : Cx} {e : List Stmt} {t t' : TS} (h : PSs X e t) (w : ∀ D σ H, t' D σ H → t D σ H) : PSs X e t' := ⟨fun pins s σ H D I q => h.run pins s σ H D I (w _ _ _ q)⟩
theorem pg_weak {X : Cx} {e : Expr} {t t' : TG} (h : PG X e t) (w : ∀ v σ H Q, t' v σ H Q → t v σ H Q) : PG X e t' := ⟨fun pins s σ H v u Q I r q => h.run pins s σ H v u Q I r (w _ _ _ _ q)⟩
theorem tEv.of {K : KW} {f g : Env → Store → R (D × Store)} (h : ∀ rho S, f rho S = g rho S) {σ : L2.St} {H : Hp} {Q : VK} (q : tEv K f σ H Q) : tEv K g σ H Q := by
  obtain ⟨al, U, S, rho, d, S', sr, er, e, q⟩ := q
  exact ⟨al, U, S, rho, d, S', sr, er, (h rho S).symm.trans e, q⟩

section
variable {X : Cx} {a b c o : Expr} {es rest : List Expr} {pos p2 : Pos} {fa fb fc : Env → Store → R (D × Store)} {fs gs : Env → Store → R (List D × Store)} {fl fh : Env → Store → R (Option Int × Store)}

theorem se_var {i : Nat} {x : Str} (hN : X.N[i]? = some x) (hv : Vis X.env.scope x) (hd : (x == ("__debug__" : Str)) = false) (hcd : (x == ("__classdict__" : Str)) = false) :
    PE X (.Name x pos) (tEv X.kw fun rho S => match rho[i]? with
    | some (some d) => .ok (d, S)
    | _ => .bad) := by
  refine pe_weak (pe_var hN hv hd hcd) fun σ H Q ⟨al, U, S, rho, d, S', sr, er, e, q⟩ => ?_
  simp only at e
  split at e
  · rename_i d' e1
    cases e
    obtain ⟨v, e2, r⟩ := er.2 i _ e1
    exact ⟨v, e2, q v H al .refl sr r⟩
  · cases e
theorem se_con {d : D} {v : V} (h : PE X a (tC v)) (r : ∀ (al : Nat → Addr) (n : Nat) (U : List Addr) (H : Hp), Rep X.kw al n U H d v) : PE X a (tEv X.kw fun _ S => .ok (d, S)) := by
  refine pe_weak h fun σ H Q ⟨al, U, S, rho, d, S', sr, er, e, q⟩ => ?_
  cases e
  exact q v H al .refl sr (r _ _ _ _)
theorem sa_nil : PA X [] (tEvs X.kw fun _ S => .ok ([], S)) := by
  refine pa_weak pa_nil fun σ H Q ⟨al, U, S, rho, d, S', sr, er, e, q⟩ => ?_
  cases e
  exact q [] H al .refl sr (by simp only [Reps])
theorem sa_cons (ha : PE X a (tEv X.kw fa)) (hb : PA X es (tEvs X.kw fs)) (hst : starEach (a :: es) X.env = (false, eval a X.env) :: starEach es X.env) :
    PA X (a :: es) (tEvs X.kw fun rho S => (fa rho S).bind fun p => (fs rho p.2).bind fun q => .ok (p.1 :: q.1, q.2)) := by
  refine pa_weak (pa_cons ha hb hst) fun σ H Q ⟨al, U, S, rho, d, S', sr, er, e, q⟩ => ?_
  obtain ⟨⟨d1, S1⟩, e1, e⟩ := R.bind_ok e
  obtain ⟨⟨d2, S2⟩, e2, e⟩ := R.bind_ok e
  cases e
  refine ⟨al, U, S, rho, d1, S1, sr, er, e1, fun v1 H1 al1 n1 sr1 r1 => ⟨al1, U, S1, rho, d2, S2, sr1, er.nxt n1, e2, fun v2 H2 al2 n2 sr2 r2 => ?_⟩⟩
  refine q _ H2 al2 (sr1.trans n1 n2) sr2 ?_
  simp only [Reps]
  exact ⟨v1, v2, rfl, Rep.nxt n2 _ _ r1, r2⟩
theorem pe_tupP {t : TA} {k : Nat} (h : PA X es t) : PE X (.Tuple es k pos) (fun σ H Q => t σ H fun xs H1 => xs.length ≤ sizeLine ∧ NewT H1 xs Q) := by
  refine ⟨fun pins s σ H Q I hq => wpAny_Tuple_spliced (thn (h.run pos pins s σ H _ I hq) fun us s1 hh => ?_)⟩
  obtain ⟨xs, H1, I1, r, z, q⟩ := hh
  exact ⟨by rw [← r.length]; exact z, lay_tup I1 r z q⟩
theorem se_tup {k : Nat} (h : PA X es (tEvs X.kw fs)) (hl : es.length ≤ sizeLine) (hn : ∀ rho S p, fs rho S = .ok p → p.1.length = es.length) : PE X (.Tuple es k pos) (tEv X.kw fun rho S => (fs rho S).bind fun p => .ok (.tup p.1, p.2)) := by
  refine pe_weak (pe_tupP h) fun σ H Q ⟨al, U, S, rho, d, S', sr, er, e, q⟩ => ?_
  obtain ⟨⟨d1, S1⟩, e1, e⟩ := R.bind_ok e
  cases e
  refine ⟨al, U, S, rho, d1, S1, sr, er, e1, fun vs H1 al1 n1 sr1 r1 => ?_⟩
  have hd : d1.length ≤ sizeLine := by rw [hn _ _ _ e1]; exact hl
  exact ⟨by rw [← r1.length]; exact hd, new_tup sr1 hd r1 fun v H2 al2 n2 sr2 r2 => q v H2 al2 (sr1.trans n1 n2) sr2 r2⟩
theorem se_lst {m : Bool} (h : PA X es (tEvs X.kw fs)) (hl : es.length ≤ sizeLine) (hn : ∀ rho S p, fs rho S = .ok p → p.1.length = es.length) : PE X (.List es pos) (tEv X.kw fun rho S => (fs rho S).bind fun p => litD m p.1 p.2) := by
  refine pe_weak (pe_lst h) fun σ H Q ⟨al, U, S, rho, d, S', sr, er, e, q⟩ => ?_
  obtain ⟨⟨d1, S1⟩, e1, e⟩ := R.bind_ok e
  refine ⟨al, U, S, rho, d1, S1, sr, er, e1, fun vs H1 al1 n1 sr1 r1 => ?_⟩
  have hd : d1.length ≤ sizeLine := by rw [hn _ _ _ e1]; exact hl
  exact ⟨by rw [← r1.length]; exact hd, new_lit sr1 e hd r1 fun v H2 al2 n2 sr2 r2 => q v H2 al2 (sr1.trans n1 n2) sr2 r2⟩
/-- two values, then an operation -/
theorem tEv_two {r : R2} {g : D → D → Store → R (D × Store)} (hr : ∀ x y H Q, tOpD X.kw g x y H Q → r x y H Q) {σ : L2.St} {H : Hp} {Q : VK} (h : tEv X.kw (fun rho S => (fa rho S).bind fun p => (fb rho p.2).bind fun q => g p.1 q.1 q.2) σ H Q) : tOp r (tEv X.kw fa) (tEv X.kw fb) σ H Q := by
  obtain ⟨al, U, S, rho, d, S', sr, er, e, q⟩ := h
  obtain ⟨⟨d1, S1⟩, e1, e⟩ := R.bind_ok e
  obtain ⟨⟨d2, S2⟩, e2, e⟩ := R.bind_ok e
  exact ⟨al, U, S, rho, d1, S1, sr, er, e1, fun v1 H1 al1 n1 sr1 r1 => ⟨al1, U, S1, rho, d2, S2, sr1, er.nxt n1, e2, fun v2 H2 al2 n2 sr2 r2 =>
    hr _ _ _ _ ⟨al2, U, S2, d1, d2, d, S', sr2, Rep.nxt n2 _ _ r1, r2, e, fun v3 H3 al3 n3 sr3 r3 => q v3 H3 al3 (sr1.trans n1 (sr2.trans n2 n3)) sr3 r3⟩⟩⟩
theorem se_bin (o : Op) (ha : PE X a (tEv X.kw fa)) (hb : PE X b (tEv X.kw fb)) : PE X (.BinOp a (opA o) b pos) (tEv X.kw fun rho S => (fa rho S).bind fun p => (fb rho p.2).bind fun q => binD o p.1 q.1 q.2) :=
  pe_weak (pe_op (op_D o) ha hb) fun σ H Q h => tEv_two (fun _ _ _ _ h => h) h
theorem se_neg (ha : PE X a (tEv X.kw fa)) : PE X (.UnaryOp .USub a pos) (tEv X.kw fun rho S => (fa rho S).bind fun p => match p.1 with
    | .int i => .ok (.int (-i), p.2)
    | _ => .bad) := by
  refine pe_weak (pe_un un_neg ha) fun σ H Q ⟨al, U, S, rho, d, S', sr, er, e, q⟩ => ?_
  obtain ⟨⟨d1, S1⟩, e1, e⟩ := R.bind_ok e
  refine ⟨al, U, S, rho, d1, S1, sr, er, e1, fun v1 H1 al1 n1 sr1 r1 => ?_⟩
  simp only at e
  split at e
  · cases e
    simp only [Rep] at r1
    exact ⟨_, r1, q _ _ _ n1 sr1 (by simp only [Rep])⟩
  · cases e
theorem se_not (ha : PE X a (tEv X.kw fa)) : PE X (.UnaryOp .Not a pos) (tEv X.kw fun rho S => (fa rho S).bind fun p => match p.1 with
    | .bl b => .ok (.bl (!b), p.2)
    | _ => .bad) := by
  refine pe_weak (pe_not ha) fun σ H Q ⟨al, U, S, rho, d, S', sr, er, e, q⟩ => ?_
  obtain ⟨⟨d1, S1⟩, e1, e⟩ := R.bind_ok e
  refine ⟨al, U, S, rho, d1, S1, sr, er, e1, fun v1 H1 al1 n1 sr1 r1 => ?_⟩
  simp only at e
  split at e
  · cases e
    simp only [Rep] at r1
    exact ⟨_, r1, q _ _ _ n1 sr1 (by simp only [Rep])⟩
  · cases e
theorem st_not (ha : PT X a (tEvT X.kw fa)) : PT X (.UnaryOp .Not a pos) (tEvT X.kw fun rho S => (fa rho S).bind fun p => match p.1 with
    | .bl b => .ok (.bl (!b), p.2)
    | _ => .bad) := by
  refine pt_weak (pt_not ha) fun σ H Q ⟨al, U, S, rho, d, S', sr, er, e, q⟩ => ?_
  obtain ⟨⟨d1, S1⟩, e1, e⟩ := R.bind_ok e
  simp only at e
  split at e
  · rename_i b
    cases e
    exact ⟨al, U, S, rho, b, _, sr, er, e1, fun H1 al1 n1 sr1 => q _ _ n1 sr1⟩
  · cases e
/-- a test by its value -/
theorem st_val (ha : PE X a (tEv X.kw fa)) (he : ∀ whole, isTrue a X.env whole = (do let v ← whole; standAt a.pos; holding [v] (truthy v))) : PT X a (tEvT X.kw fa) := by
  refine pt_weak (pt_val ha he) fun σ H Q ⟨al, U, S, rho, d, S', sr, er, e, q⟩ => ?_
  refine ⟨al, U, S, rho, .bl d, S', sr, er, e, fun v H1 al1 n1 sr1 r1 => ?_⟩
  simp only [Rep] at r1
  exact ⟨d, r1, q _ _ n1 sr1⟩
theorem se_cmp (hu : X.A.units + 64 < cLine) (o : Cm) (ha : PE X a (tEv X.kw fa)) (hb : PE X b (tEv X.kw fb)) (hm : behindInMarks (cmA o) b = false) :
    PE X (.Compare a [cmA o] [b] pos) (tEv X.kw fun rho S => (fa rho S).bind fun p => (fb rho p.2).bind fun q => cmpD o p.1 q.1 q.2) :=
  pe_weak (pe_cmpR (cmp_D hu o) ha hb hm) fun σ H Q h => tEv_two (fun _ _ _ _ h => h) h
theorem st_cmp (hu : X.A.units + 64 < cLine) (o : Cm) (ha : PE X a (tEv X.kw fa)) (hb : PE X b (tEv X.kw fb)) (hm : behindInMarks (cmA o) b = false) :
    PT X (.Compare a [cmA o] [b] pos) (tEvT X.kw fun rho S => (fa rho S).bind fun p => (fb rho p.2).bind fun q => cmpD o p.1 q.1 q.2) := by
  refine pt_weak (pt_cmpR (cmp_D hu o) ha hb hm) fun σ H Q ⟨al, U, S, rho, d, S', sr, er, e, q⟩ => ?_
  refine tEv_two (g := cmpD o) (fun _ _ _ _ h => h) ⟨al, U, S, rho, .bl d, S', sr, er, e, fun v H1 al1 n1 sr1 r1 => ?_⟩
  simp only [Rep] at r1
  exact ⟨d, r1, q _ _ n1 sr1⟩
theorem tEv_chain {o o' : Cm} {σ : L2.St} {H : Hp} {Q : VK} (h : tEv X.kw (fun rho S => (fa rho S).bind fun p => (fb rho p.2).bind fun q => (cmpD o p.1 q.1 q.2).bind fun r => match r.1 with
      | .bl true => (fc rho r.2).bind fun s => cmpD o' q.1 s.1 s.2
      | .bl false => .ok (.bl false, r.2)
      | _ => .bad) σ H Q) : tChain (tOpD X.kw (cmpD o)) (tOpD X.kw (cmpD o')) (tEv X.kw fa) (tEv X.kw fb) (tEv X.kw fc) σ H Q := by
  obtain ⟨al, U, S, rho, d, S', sr, er, e, q⟩ := h
  obtain ⟨⟨d1, S1⟩, e1, e⟩ := R.bind_ok e
  obtain ⟨⟨d2, S2⟩, e2, e⟩ := R.bind_ok e
  obtain ⟨⟨d3, S3⟩, e3, e⟩ := R.bind_ok e
  refine ⟨al, U, S, rho, d1, S1, sr, er, e1, fun v1 H1 al1 n1 sr1 r1 => ⟨al1, U, S1, rho, d2, S2, sr1, er.nxt n1, e2, fun v2 H2 al2 n2 sr2 r2 =>
    ⟨al2, U, S2, d1, d2, d3, S3, sr2, Rep.nxt n2 _ _ r1, r2, e3, fun v3 H3 al3 n3 sr3 r3 => ?_⟩⟩⟩
  have n13 := sr1.trans n1 (sr2.trans n2 n3)
  simp only at e
  split at e
  · simp only [Rep] at r3
    refine ⟨true, r3, ?_⟩
    rw [if_pos rfl]
    obtain ⟨⟨d4, S4⟩, e4, e⟩ := R.bind_ok e
    exact ⟨al3, U, S3, rho, d4, S4, sr3, er.nxt n13, e4, fun v4 H4 al4 n4 sr4 r4 => ⟨al4, U, S4, d2, d4, d, S', sr4, Rep.nxt n4 _ _ (Rep.nxt n3 _ _ r2), r4, e, fun v5 H5 al5 n5 sr5 r5 => q v5 H5 al5 (sr3.trans n13 (sr4.trans n4 n5)) sr5 r5⟩⟩
  · cases e
    simp only [Rep] at r3
    refine ⟨false, r3, ?_⟩
    rw [if_neg Bool.false_ne_true]
    exact q _ _ _ n13 sr3 (by simp only [Rep])
  · cases e
theorem se_chain (hu : X.A.units + 64 < cLine) (o o' : Cm) (ha : PE X a (tEv X.kw fa)) (hb : PE X b (tEv X.kw fb)) (hc : PE X c (tEv X.kw fc)) (hm : lastMarks [cmA o, cmA o'] [b, c] = false) :
    PE X (.Compare a [cmA o, cmA o'] [b, c] pos) (tEv X.kw fun rho S => (fa rho S).bind fun p => (fb rho p.2).bind fun q => (cmpD o p.1 q.1 q.2).bind fun r => match r.1 with
      | .bl true => (fc rho r.2).bind fun s => cmpD o' q.1 s.1 s.2
      | .bl false => .ok (.bl false, r.2)
      | _ => .bad) :=
  pe_weak (pe_chain (cmp_D hu o) (cmp_D hu o') ha hb hc hm) fun σ H Q h => tEv_chain h
theorem st_chain (hu : X.A.units + 64 < cLine) (o o' : Cm) (ha : PE X a (tEv X.kw fa)) (hb : PE X b (tEv X.kw fb)) (hc : PE X c (tEv X.kw fc)) (hm : lastMarks [cmA o, cmA o'] [b, c] = false) :
    PT X (.Compare a [cmA o, cmA o'] [b, c] pos) (tEvT X.kw fun rho S => (fa rho S).bind fun p => (fb rho p.2).bind fun q => (cmpD o p.1 q.1 q.2).bind fun r => match r.1 with
      | .bl true => (fc rho r.2).bind fun s => cmpD o' q.1 s.1 s.2
      | .bl false => .ok (.bl false, r.2)
      | _ => .bad) := by
  refine pt_weak (pt_chain (cmp_D hu o) (cmp_D hu o') ha hb hc hm) fun σ H Q ⟨al, U, S, rho, d, S', sr, er, e, q⟩ => ?_
  refine tEv_chain (o := o) (o' := o') ⟨al, U, S, rho, .bl d, S', sr, er, e, fun v H1 al1 n1 sr1 r1 => ?_⟩
  simp only [Rep] at r1
  exact ⟨d, r1, q _ _ n1 sr1⟩
theorem se_one {op : BoolOp} (ha : PE X a (tEv X.kw fa)) : PE X (.BoolOp op [a] pos) (tEv X.kw fa) := pe_one ha
theorem se_and (ha : PE X a (tEv X.kw fa)) (hb : PE X (.BoolOp .And (b :: rest) pos) (tEv X.kw fb)) : PE X (.BoolOp .And (a :: b :: rest) pos) (tEv X.kw fun rho S => (fa rho S).bind fun p => match p.1 with
    | .bl true => fb rho p.2
    | .bl false => .ok (.bl false, p.2)
    | _ => .bad) := by
  refine pe_weak (pe_and ha hb) fun σ H Q ⟨al, U, S, rho, d, S', sr, er, e, q⟩ => ?_
  obtain ⟨⟨d1, S1⟩, e1, e⟩ := R.bind_ok e
  refine ⟨al, U, S, rho, d1, S1, sr, er, e1, fun v1 H1 al1 n1 sr1 r1 => ?_⟩
  simp only at e
  split at e
  · simp only [Rep] at r1
    refine ⟨true, r1, ?_⟩
    rw [if_pos rfl]
    exact ⟨al1, U, S1, rho, d, S', sr1, er.nxt n1, e, fun v2 H2 al2 n2 sr2 r2 => q v2 H2 al2 (sr1.trans n1 n2) sr2 r2⟩
  · cases e
    simp only [Rep] at r1
    refine ⟨false, r1, ?_⟩
    rw [if_neg Bool.false_ne_true]
    exact q _ _ _ n1 sr1 (by simp only [Rep])
  · cases e
theorem se_or (ha : PE X a (tEv X.kw fa)) (hb : PE X (.BoolOp .Or (b :: rest) pos) (tEv X.kw fb)) : PE X (.BoolOp .Or (a :: b :: rest) pos) (tEv X.kw fun rho S => (fa rho S).bind fun p => match p.1 with
    | .bl true => .ok (.bl true, p.2)
    | .bl false => fb rho p.2
    | _ => .bad) := by
  refine pe_weak (pe_or ha hb) fun σ H Q ⟨al, U, S, rho, d, S', sr, er, e, q⟩ => ?_
  obtain ⟨⟨d1, S1⟩, e1, e⟩ := R.bind_ok e
  refine ⟨al, U, S, rho, d1, S1, sr, er, e1, fun v1 H1 al1 n1 sr1 r1 => ?_⟩
  simp only at e
  split at e
  · cases e
    simp only [Rep] at r1
    refine ⟨true, r1, ?_⟩
    rw [if_pos rfl]
    exact q _ _ _ n1 sr1 (by simp only [Rep])
  · simp only [Rep] at r1
    refine ⟨false, r1, ?_⟩
    rw [if_neg Bool.false_ne_true]
    exact ⟨al1, U, S1, rho, d, S', sr1, er.nxt n1, e, fun v2 H2 al2 n2 sr2 r2 => q v2 H2 al2 (sr1.trans n1 n2) sr2 r2⟩
  · cases e
theorem sw_and1 (ha : PT X a (tEvT X.kw fa)) : PW X (.BoolOp .And [a] pos) (tEvT X.kw fa) := pw_and1 ha
theorem sw_or1 (ha : PT X a (tEvT X.kw fa)) : PW X (.BoolOp .Or [a] pos) (tEvT X.kw fa) := pw_or1 ha
theorem sw_and (ha : PT X a (tEvT X.kw fa)) (hb : PW X (.BoolOp .And (b :: rest) pos) (tEvT X.kw fb)) : PW X (.BoolOp .And (a :: b :: rest) pos) (tEvT X.kw fun rho S => (fa rho S).bind fun p => match p.1 with
    | .bl true => fb rho p.2
    | .bl false => .ok (.bl false, p.2)
    | _ => .bad) := by
  refine pw_weak (pw_and ha hb) fun σ H Q ⟨al, U, S, rho, d, S', sr, er, e, q⟩ => ?_
  obtain ⟨⟨d1, S1⟩, e1, e⟩ := R.bind_ok e
  simp only at e
  split at e
  · refine ⟨al, U, S, rho, true, S1, sr, er, e1, fun H1 al1 n1 sr1 => ?_⟩
    show if true = true then _ else _
    rw [if_pos rfl]
    exact ⟨al1, U, S1, rho, d, S', sr1, er.nxt n1, e, fun H2 al2 n2 sr2 => q H2 al2 (sr1.trans n1 n2) sr2⟩
  · cases e
    refine ⟨al, U, S, rho, false, _, sr, er, e1, fun H1 al1 n1 sr1 => ?_⟩
    show if false = true then _ else _
    rw [if_neg Bool.false_ne_true]
    exact q _ _ n1 sr1
  · cases e
theorem sw_or (ha : PT X a (tEvT X.kw fa)) (hb : PW X (.BoolOp .Or (b :: rest) pos) (tEvT X.kw fb)) : PW X (.BoolOp .Or (a :: b :: rest) pos) (tEvT X.kw fun rho S => (fa rho S).bind fun p => match p.1 with
    | .bl true => .ok (.bl true, p.2)
    | .bl false => fb rho p.2
    | _ => .bad) := by
  refine pw_weak (pw_or ha hb) fun σ H Q ⟨al, U, S, rho, d, S', sr, er, e, q⟩ => ?_
  obtain ⟨⟨d1, S1⟩, e1, e⟩ := R.bind_ok e
  simp only at e
  split at e
  · cases e
    refine ⟨al, U, S, rho, true, _, sr, er, e1, fun H1 al1 n1 sr1 => ?_⟩
    show if true = true then _ else _
    rw [if_pos rfl]
    exact q _ _ n1 sr1
  · refine ⟨al, U, S, rho, false, S1, sr, er, e1, fun H1 al1 n1 sr1 => ?_⟩
    show if false = true then _ else _
    rw [if_neg Bool.false_ne_true]
    exact ⟨al1, U, S1, rho, d, S', sr1, er.nxt n1, e, fun H2 al2 n2 sr2 => q H2 al2 (sr1.trans n1 n2) sr2⟩
  · cases e
theorem se_dct0 : PE X (.Dict [] [] pos) (tEv X.kw fun _ S => .ok (.ref S.length, S ++ [.dct [] []])) := by
  refine pe_weak pe_dnewK fun σ H Q ⟨al, U, S, rho, d, S', sr, er, e, q⟩ => ?_
  cases e
  intro p hp
  obtain ⟨n1, s1, e1⟩ := sr.make (ho := .dK []) (o := .dct [] []) hp (fun g => ⟨[], upd_same, Nat.zero_le _, rfl, by simp [Reps], List.nodup_nil, fun _ h => nomatch h⟩)
  refine q _ _ _ n1 s1 ?_
  simp only [Rep]
  exact ⟨by simp, by rw [e1]⟩

theorem se_dcn0 : PE X (.Dict [] [] pos) (tEv X.kw fun _ S => .ok (.ref S.length, S ++ [.dcn [] []])) := by
  refine ⟨fun pins s σ H Q I h => ?_⟩
  obtain ⟨al, U, S, rho, d, S', sr, er, e, q⟩ := h
  cases e
  have hn := I.hok.fresh (Nat.le_refl s.heap.objs.size)
  have hs : (s.heap.objs.size == sysModules) = false := beq_eq_false_iff_ne.mpr (Ne.symm (Nat.ne_of_lt I.big))
  obtain ⟨n1, s1, e1⟩ := sr.make (ho := .ext (ndP X.w s.heap.objs.size [])) (o := .dcn [] []) hn fun g => ⟨[], [], [], upd_same, ⟨hs, Nat.zero_le _, List.nodup_nil, rfl, rfl, .nil⟩, by simp [Reps], by simp [Reps]⟩
  refine wpAny_Dict_empty ⟨.ref s.heap.objs.size, _, I.laid (a := s.heap.objs.size) (o := .ext (ndP X.w s.heap.objs.size [])) (t' := s.toks) (fun _ _ q => Heap.get?_push_of_some _ q) (Nat.le_refl _) (nd_ok ⟨_, #[], 0, Heap.get?_push_size _ rfl, ⟨rfl, rfl, rfl⟩, rfl, rfl⟩), rfl, q _ _ _ n1 s1 ?_⟩
  simp only [Rep]
  exact ⟨by simp, by rw [e1]⟩

/-! ### subscripts, slices -/
theorem atI_rep {K : KW} {al : Nat → Addr} {n : Nat} {U : List Addr} {H : Hp} {ds : List D} {vs : List V} {j : Int} {d : D} (r : Reps K al n U H ds vs) (e : atI ds j = some d) : ∃ v, atI vs j = some v ∧ Rep K al n U H d v := by
  unfold atI at e ⊢
  rw [r.length] at e
  cases h : ixN vs.length j with
  | none => rw [h] at e; cases e
  | some k =>
    rw [h] at e
    simp only [Option.bind_some] at e ⊢
    exact r.get e
theorem ix_D (hu : X.A.units + 64 < cLine) : IxR X (tOpD X.kw ixD) := by
  intro value slice pins s σ H x y v u Q I rx ry ⟨al, U, S, a, b, d, S', sr, ra, rb, e, q⟩ hs
  have q' : ∀ d' v', R.ok (d', S) = R.ok (d, S') → Rep X.kw al S.length U H d' v' → Q v' H := fun d' v' h r => by
    cases h
    exact q _ _ _ .refl sr r
  cases a with
  | str z =>
    cases b with
    | int j =>
      simp only [ixD] at e
      split at e
      · rename_i c hc
        simp only [Rep] at ra rb
        refine ix_str value slice pins s σ H x y v u Q I rx ry ⟨_, j, c.toNat, ra.1, rb, by rw [toS_length]; exact ra.2, ?_, ?_⟩ hs
        · show atI (z.map Char.toNat).toArray.toList j = some c.toNat
          unfold atI at hc ⊢
          rw [List.toList_toArray, List.length_map]
          cases h : ixN z.length j with
          | none => rw [h] at hc; cases hc
          | some k =>
            rw [h] at hc
            simp only [Option.bind_some] at hc ⊢
            rw [List.getElem?_map, hc]
            rfl
        · exact q' _ _ e (by simp only [Rep]; exact ⟨rfl, (by decide : 1 ≤ sizeLine)⟩)
      · cases e
    | _ => simp [ixD] at e
  | tup ds =>
    cases b with
    | int j =>
      simp only [ixD] at e
      split at e
      · rename_i c hc
        simp only [Rep] at ra rb
        obtain ⟨p, vs, rfl, t, l, rs⟩ := ra
        obtain ⟨w, hw, rw'⟩ := atI_rep rs hc
        exact ix_tup value slice pins s σ H _ y v u Q I rx ry ⟨p, vs, j, w, rfl, rb, t.sq, hw, q' _ _ e rw'⟩ hs
      · cases e
    | _ => simp [ixD] at e
  | lst ds =>
    cases b with
    | int j =>
      simp only [ixD] at e
      split at e
      · rename_i c hc
        simp only [Rep] at ra rb
        obtain ⟨p, vs, rfl, t, l, rs⟩ := ra
        obtain ⟨w, hw, rw'⟩ := atI_rep rs hc
        exact ix_list value slice pins s σ H _ y v u Q I rx ry ⟨p, vs, j, w, rfl, rb, t.sq, hw, q' _ _ e rw'⟩ hs
      · cases e
    | _ => simp [ixD] at e
  | ref m =>
    simp only [Rep] at ra
    obtain ⟨hm, rfl⟩ := ra
    cases ho : S[m]? with
    | none => simp [ixD, ho] at e
    | some ob =>
      cases ob with
      | lst ds =>
        obtain ⟨vs, h1, l, rs⟩ := sr.obj m _ ho
        cases b with
        | int j =>
          simp only [ixD, ho] at e
          split at e
          · rename_i c hc
            simp only [Rep] at rb
            obtain ⟨w, hw, rw'⟩ := atI_rep rs hc
            exact ix_list value slice pins s σ H _ y v u Q I rx ry ⟨_, vs, j, w, rfl, rb, SqL.of h1, hw, q' _ _ e rw'⟩ hs
          · cases e
        | _ => simp [ixD, ho] at e
      | dct ks vs =>
        obtain ⟨kvs, h1, l, r1, r2, r3, r4⟩ := sr.obj m _ ho
        simp only [ixD, ho] at e
        split at e
        · rename_i hf
          split at e
          · rename_i c hc
            obtain ⟨ky, ek, ex⟩ := keyOk_rep rb hf.1
            obtain ⟨_, f2⟩ := findK_val hf.1 ek hf.2 r1 r2
            obtain ⟨w, hw, rw'⟩ := f2 c hc
            obtain rfl : v = Value.ref (al m) := rx
            have g : DGet H (al m) y (some w) := by rw [ex, ← hw]; exact DGet.k h1
            have hd := d_getItem (E := X.xe) (A := X.A) (Q := EP X pins σ Q) (by omega) I g ry fun w' s3 I3 rw3 => ⟨w, H, I3, rw3, q' _ _ e rw'⟩
            exact tail_any (ops := [.ref (al m), u]) (dict_typeIs I g) PySem.F.slot_dict_getitem.lookup hd hs
          · cases e
        · cases e
      | dcn ks vs =>
        simp only [ixD, ho] at e
        split at e
        · rename_i c hc
          obtain ⟨ky, ek, hf⟩ := Option.bind_eq_some_iff.mp hc
          obtain rfl : v = Value.ref (al m) := rx
          obtain ⟨tI, hd⟩ := n_getItem (E := X.xe) (Q := EP X pins σ Q) hu I ry rb (sr.obj m _ ho) ek hf fun w w' s3 I3 rw3 rw4 => ⟨w, H, I3, rw3, q' _ _ e rw4⟩
          exact tail_any (ops := [.ref (al m), u]) tI PySem.F.slot_dict_getitem.lookup hd hs
        · cases e
      | ins c fs => simp [ixD, ho] at e
  | _ => cases b <;> simp [ixD] at e
theorem se_ix (hu : X.A.units + 64 < cLine) (ha : PE X a (tEv X.kw fa)) (hb : PE X b (tEv X.kw fb)) (hp : PlainIx b) : PE X (.Subscript a b pos) (tEv X.kw fun rho S => (fa rho S).bind fun p => (fb rho p.2).bind fun q => ixD p.1 q.1 q.2) :=
  pe_weak (pe_ix (ix_D hu) ha hb hp) fun σ H Q h => tEv_two (fun _ _ _ _ h => h) h
end
end Z

set_option Elab.async false
set_option linter.all false
set_option maxRecDepth 100000
set_option maxHeartbeats 4000000
/-! Ev2: slices, calls of what is built in. -/
namespace Z
open PySem L2 PySem.Spec PyProof.Rows

section
variable {X : Cx} {a b c o : Expr} {es rest : List Expr} {pos p2 : Pos} {fa fb fc : Env → Store → R (D × Store)} {fs gs : Env → Store → R (List D × Store)} {fl fh : Env → Store → R (Option Int × Store)}

theorem so_none : PO X none (tEvP X.kw fun _ S => .ok (none, S)) := by
  refine po_weak po_none fun σ H Q ⟨al, U, S, rho, d, S', sr, er, e, q⟩ => ?_
  cases e
  exact q H al .refl sr
theorem so_some (ha : PE X a (tEv X.kw fa)) : PO X (some a) (tEvP X.kw fun rho S => (fa rho S).bind partD) := by
  refine po_weak (po_some ha) fun σ H Q ⟨al, U, S, rho, d, S', sr, er, e, q⟩ => ?_
  obtain ⟨⟨d1, S1⟩, e1, e⟩ := R.bind_ok e
  refine ⟨al, U, S, rho, d1, S1, sr, er, e1, fun v1 H1 al1 n1 sr1 r1 => ?_⟩
  unfold partD at e
  split at e
  · rename_i i hi
    simp only at hi
    subst hi
    cases e
    simp only [Rep] at r1
    exact ⟨i, r1, q _ _ n1 sr1⟩
  · cases e
theorem cutS_toS (x : List Char) (lo hi : Option Int) : cutS (toS x) lo hi = toS (cut x lo hi) := by
  unfold cutS cut toS
  congr 1
  show (List.take _ (List.drop _ (x.map Char.toNat).toArray.toList)).toArray = _
  rw [List.toList_toArray, List.map_take, List.map_drop]
  have : (⟨(x.map Char.toNat).toArray⟩ : Str).length = x.length := toS_length x
  rw [this]
def tSlD (K : KW) (m : Bool) : V → Option Int → Option Int → Hp → VK → Prop := fun x lo hi H Q => ∃ al U S a d S',
  SR K al U S H ∧ Rep K al S.length U H a x ∧ slD m a lo hi S = .ok (d, S') ∧
  ∀ v H' al', Nxt al S.length H al' S'.length H' → SR K al' U S' H' → Rep K al' S'.length U H' d v → Q v H'
theorem cut_length {A : Type} (x : List A) (lo hi : Option Int) : (cut x lo hi).length ≤ x.length := by
  unfold cut
  rw [List.length_take, List.length_drop]
  omega
theorem items_rep {K : KW} {al : Nat → Addr} {U : List Addr} {S : Store} {H : Hp} {a : D} {x : V} {ds : List D} (sr : SR K al U S H) (ra : Rep K al S.length U H a x) (e : items S a = some ds) :
    ∃ p vs, x = .ref p ∧ (SqL K H p vs ∨ SqT K H p vs) ∧ ds.length ≤ sizeLine ∧ Reps K al S.length U H ds vs := by
  cases a with
  | tup es =>
    cases e
    simp only [Rep] at ra
    obtain ⟨p, vs, rfl, t, l, r⟩ := ra
    exact ⟨p, vs, rfl, .inr t.sq, l, r⟩
  | lst es =>
    cases e
    simp only [Rep] at ra
    obtain ⟨p, vs, rfl, t, l, r⟩ := ra
    exact ⟨p, vs, rfl, .inl t.sq, l, r⟩
  | ref m =>
    simp only [Rep] at ra
    obtain ⟨hm, rfl⟩ := ra
    unfold items at e
    cases ho : S[m]? with
    | none => simp [ho] at e
    | some ob =>
      cases ob with
      | lst es =>
        simp only [ho, Option.some.injEq] at e
        subst e
        obtain ⟨vs, h1, l, rs⟩ := sr.obj m _ ho
        exact ⟨_, vs, rfl, .inl (SqL.of h1), l, rs⟩
      | _ => simp [ho] at e
  | _ => cases e
theorem items_lst {K : KW} {al : Nat → Addr} {U : List Addr} {S : Store} {H : Hp} {a : D} {x : V} {ds : List D} (hT : ∀ es, a ≠ .tup es) (sr : SR K al U S H) (ra : Rep K al S.length U H a x) (e : items S a = some ds) :
    ∃ p vs, x = .ref p ∧ SqL K H p vs ∧ ds.length ≤ sizeLine ∧ Reps K al S.length U H ds vs := by
  cases a with
  | tup es => exact absurd rfl (hT es)
  | lst es =>
    cases e
    simp only [Rep] at ra
    obtain ⟨p, vs, rfl, t, l, r⟩ := ra
    exact ⟨p, vs, rfl, t.sq, l, r⟩
  | ref m =>
    simp only [Rep] at ra
    obtain ⟨hm, rfl⟩ := ra
    unfold items at e
    cases ho : S[m]? with
    | none => simp [ho] at e
    | some ob =>
      cases ob with
      | lst es =>
        simp only [ho, Option.some.injEq] at e
        subst e
        obtain ⟨vs, h1, l, rs⟩ := sr.obj m _ ho
        exact ⟨_, vs, rfl, SqL.of h1, l, rs⟩
      | _ => simp [ho] at e
  | _ => cases e
theorem sl_D (m : Bool) : SlR X (tSlD X.kw m) := by
  intro pins s σ H x v vl vu lo hi sl Q I rx hs pl pu ⟨al, U, S, a, d, S', sr, ra, e, q⟩
  have lst : (∀ es, a ≠ .tup es) → (∀ z, a ≠ .str z) → ∃ T id, typeLookup (.type T) "__getitem__" = pure (some (.builtin id)) ∧ s.TypeIs v T ∧ wpAny (model X.prog X.w) X.A (getItem v (.ref sl)) (EP X pins σ Q) X.xe s := by
    intro hT hS
    have e' : (match items S a with
      | some ds => litD m (Z.cut ds lo hi) S
      | none => .bad) = R.ok (d, S') := by
      cases a <;> first | exact e | exact absurd rfl (hT _) | exact absurd rfl (hS _)
    split at e'
    · rename_i ds ei
      obtain ⟨p, vs, rfl, hq, l, rs⟩ := items_lst hT sr ra ei
      exact sl_list pins s σ H _ v vl vu lo hi sl Q I rx hs pl pu ⟨p, vs, rfl, hq, new_lit sr e' (Nat.le_trans (cut_length _ _ _) l) (rs.cut lo hi) q⟩
    · cases e'
  cases a with
  | str z =>
    cases e
    simp only [Rep] at ra
    refine sl_str pins s σ H x v vl vu lo hi sl Q I rx hs pl pu ⟨_, ra.1, by rw [toS_length]; exact ra.2, ?_⟩
    rw [cutS_toS]
    exact q _ _ _ .refl sr (by simp only [Rep]; exact ⟨trivial, Nat.le_trans (cut_length _ _ _) ra.2⟩)
  | tup ds =>
    simp only [slD] at e
    cases e
    simp only [Rep] at ra
    obtain ⟨p, vs, rfl, t, l, rs⟩ := ra
    refine sl_tupP pins s σ H _ v vl vu lo hi sl Q I rx hs pl pu ⟨p, vs, rfl, t.sq, fun hw => ?_, new_tup sr (Nat.le_trans (cut_length _ _ _) l) (rs.cut lo hi) q⟩
    refine q _ _ _ .refl sr ?_
    have ec : Z.cut ds lo hi = ds := by
      unfold Z.cut
      rw [rs.length, hw.1, hw.2, Nat.sub_zero, List.drop_zero, ← rs.length, List.take_length]
    rw [ec]
    simp only [Rep]
    exact ⟨p, vs, rfl, t, l, rs⟩
  | non => exact lst (fun _ h => nomatch h) (fun _ h => nomatch h)
  | bl _ => exact lst (fun _ h => nomatch h) (fun _ h => nomatch h)
  | int _ => exact lst (fun _ h => nomatch h) (fun _ h => nomatch h)
  | lst _ => exact lst (fun _ h => nomatch h) (fun _ h => nomatch h)
  | ref _ => exact lst (fun _ h => nomatch h) (fun _ h => nomatch h)
  | fn _ => exact lst (fun _ h => nomatch h) (fun _ h => nomatch h)
  | exc _ => exact lst (fun _ h => nomatch h) (fun _ h => nomatch h)
theorem se_sl {m : Bool} {lo hi : Option Expr} (ha : PE X a (tEv X.kw fa)) (hl : PO X lo (tEvP X.kw fl)) (hh : PO X hi (tEvP X.kw fh)) :
    PE X (.Subscript a (.Slice lo hi none p2) pos) (tEv X.kw fun rho S => (fa rho S).bind fun p => (fl rho p.2).bind fun q => (fh rho q.2).bind fun r => slD m p.1 q.1 r.1 r.2) := by
  refine pe_weak (pe_slice (sl_D m) ha hl hh) fun σ H Q ⟨al, U, S, rho, d, S', sr, er, e, q⟩ => ?_
  obtain ⟨⟨d1, S1⟩, e1, e⟩ := R.bind_ok e
  obtain ⟨⟨d2, S2⟩, e2, e⟩ := R.bind_ok e
  obtain ⟨⟨d3, S3⟩, e3, e⟩ := R.bind_ok e
  exact ⟨al, U, S, rho, d1, S1, sr, er, e1, fun v1 H1 al1 n1 sr1 r1 => ⟨al1, U, S1, rho, d2, S2, sr1, er.nxt n1, e2, fun H2 al2 n2 sr2 =>
    have n12 := sr1.trans n1 n2
    ⟨al2, U, S2, rho, d3, S3, sr2, er.nxt n12, e3, fun H3 al3 n3 sr3 => ⟨al3, U, S3, d1, d, S', sr3, Rep.nxt n3 _ _ (Rep.nxt n2 _ _ r1), e, fun v4 H4 al4 n4 sr4 r4 => q v4 H4 al4 (sr2.trans n12 (sr3.trans n3 n4)) sr4 r4⟩⟩⟩⟩

/-! ### a text turned about -/
def revS (x : Str) : Str := ⟨x.cps.toList.reverse.toArray⟩
def tRevS (te : TE) : TE := fun σ H Q => te σ H fun x H1 => ∃ z, x = .str z ∧ z.length ≤ sizeLine ∧ Q (.str (revS z)) H1
theorem rev_by (x : Str) (u : Tok) : Txt.sliceBy x none none (-1, u) = revS x := by
  have h := step_rev_list x u
  have e : (Txt.sliceBy x none none (-1, u)).cps.toList = (revS x).cps.toList := by
    rw [h]
    show _ = x.cps.toList.reverse.toArray.toList
    rw [List.toList_toArray]
    apply List.ext_getElem
    · simp [Str.length]
    · intro i h1 h2
      simp only [List.length_map, List.length_range] at h1
      simp only [List.getElem_map, List.getElem_range, List.getElem_reverse]
      have hi : x.length - 1 - i < x.cps.size := by
        show x.cps.size - 1 - i < _
        have : i < x.cps.size := h1
        omega
      rw [Array.getD_eq_getD_getElem?, Array.getElem?_eq_getElem hi]
      simp only [Option.getD_some, Array.length_toList, Array.getElem_toList]
      rfl
  cases h1 : Txt.sliceBy x none none (-1, u) with
  | mk c =>
    rw [h1] at e
    have : c = (revS x).cps := Array.toList_inj.mp e
    rw [this]
theorem revS_toS (x : List Char) : revS (toS x) = toS x.reverse := by
  unfold revS toS
  simp
end
end Z

set_option Elab.async false
set_option linter.all false
set_option maxRecDepth 100000
set_option maxHeartbeats 4000000
/-! Ev3: what is built in, by values. -/
namespace Z
open PySem L2 PySem.Spec PyProof.Rows

/-! ### sorting -/
theorem leS_iff (x y : List Char) : leS x y = true ↔ x.map Char.toNat ≤ y.map Char.toNat := by
  unfold leS
  rw [← ltS_lex]
  show (!decide ((y.map Char.toNat).toArray.toList < (x.map Char.toNat).toArray.toList)) = true ↔ _
  simp only [List.toList_toArray]
  simp [List.not_lt]
theorem leS_total (x y : List Char) : leS x y = true ∨ leS y x = true := by
  rw [leS_iff, leS_iff]
  exact List.le_total _ _
theorem leS_trans {x y z : List Char} (h : leS x y = true) (g : leS y z = true) : leS x z = true := by
  rw [leS_iff] at *
  exact List.le_trans h g
theorem insS_perm (x : List Char) : ∀ l, (insS x l).Perm (x :: l)
  | [] => .refl _
  | y :: l => by
    unfold insS
    split
    · exact .refl _
    · exact ((insS_perm x l).cons y).trans (.swap x y l)
theorem sortS_perm : ∀ l, (sortS l).Perm l
  | [] => .refl _
  | x :: l => (insS_perm x _).trans ((sortS_perm l).cons x)
theorem insS_sorted (x : List Char) : ∀ l, l.Pairwise (fun a b => leS a b = true) → (insS x l).Pairwise (fun a b => leS a b = true)
  | [], _ => by simp [insS]
  | y :: l, h => by
    unfold insS
    obtain ⟨h1, h2⟩ := List.pairwise_cons.mp h
    split
    · rename_i hx
      refine List.pairwise_cons.mpr ⟨fun z hz => ?_, h⟩
      rcases List.mem_cons.mp hz with rfl | hz
      · exact hx
      · exact leS_trans hx (h1 z hz)
    · rename_i hx
      refine List.pairwise_cons.mpr ⟨fun z hz => ?_, insS_sorted x l h2⟩
      rcases List.mem_cons.mp ((insS_perm x l).mem_iff.mp hz) with rfl | hz
      · exact (leS_total y z).resolve_right hx
      · exact h1 z hz
theorem sortS_sorted : ∀ l, (sortS l).Pairwise (fun a b => leS a b = true)
  | [] => .nil
  | x :: l => insS_sorted x _ (sortS_sorted l)
theorem sortS_length (l : List (List Char)) : (sortS l).length = l.length := (sortS_perm l).length_eq
theorem risingS_pair : ∀ (p : Str) (l : List Str), risingS p l = true → ∀ x ∈ l, ltCps x.cps.toList p.cps.toList = false
  | p, [], _, x, hx => by cases hx
  | p, y :: r, h, x, hx => by
    have h' : (!ltCps y.cps.toList p.cps.toList && risingS y r) = true := h
    rw [Bool.and_eq_true] at h'
    have h1 : ltCps y.cps.toList p.cps.toList = false := by simpa using h'.1
    rcases List.mem_cons.mp hx with rfl | hx
    · exact h1
    · have h2 := risingS_pair y r h'.2 x hx
      rw [ltCps_eq] at h1 h2 ⊢
      simp only [decide_eq_false_iff_not, List.not_lt] at *
      exact List.le_trans h1 h2
theorem sortedS_pair : ∀ (l : List Str), sortedS l = true → l.Pairwise (fun a b => ltCps b.cps.toList a.cps.toList = false)
  | [], _ => .nil
  | x :: r, h => List.pairwise_cons.mpr ⟨risingS_pair x r h, sortedS_pair r (by
    cases r with
    | nil => rfl
    | cons y r =>
      have h' : (!ltCps y.cps.toList x.cps.toList && risingS y r) = true := h
      rw [Bool.and_eq_true] at h'
      exact h'.2)⟩
theorem sorted_eq {ys : List Str} {ss : List (List Char)} (hp : ys.Perm (ss.map toS)) (hs : sortedS ys = true) : ys = (sortS ss).map toS := by
  have h1 : ys.Perm ((sortS ss).map toS) := hp.trans ((sortS_perm ss).map toS).symm
  refine h1.eq_of_pairwise (le := fun a b => ltCps b.cps.toList a.cps.toList = false) (fun a b _ _ h g => ?_) (sortedS_pair ys hs) ?_
  · rw [ltCps_eq] at h g
    simp only [decide_eq_false_iff_not, List.not_lt] at h g
    have e := List.le_antisymm h g
    cases a; cases b
    exact congrArg Str.mk (Array.toList_inj.mp e)
  · refine List.pairwise_map.mpr ((sortS_sorted ss).imp fun {a b} h => ?_)
    rw [← lt_meets, ltS_lex]
    unfold leS at h
    simpa using h
theorem insI_perm (x : Int) : ∀ l, (insI x l).Perm (x :: l)
  | [] => .refl _
  | y :: l => by
    unfold insI
    split
    · exact .refl _
    · exact ((insI_perm x l).cons y).trans (.swap x y l)
theorem sortI_perm : ∀ l, (sortI l).Perm l
  | [] => .refl _
  | x :: l => (insI_perm x _).trans ((sortI_perm l).cons x)
theorem insI_sorted (x : Int) : ∀ l, l.Pairwise (· ≤ ·) → (insI x l).Pairwise (· ≤ ·)
  | [], _ => by simp [insI]
  | y :: l, h => by
    unfold insI
    obtain ⟨h1, h2⟩ := List.pairwise_cons.mp h
    split
    · rename_i hx
      refine List.pairwise_cons.mpr ⟨fun z hz => ?_, h⟩
      rcases List.mem_cons.mp hz with rfl | hz
      · exact hx
      · exact Int.le_trans hx (h1 z hz)
    · rename_i hx
      refine List.pairwise_cons.mpr ⟨fun z hz => ?_, insI_sorted x l h2⟩
      rcases List.mem_cons.mp ((insI_perm x l).mem_iff.mp hz) with rfl | hz
      · omega
      · exact h1 z hz
theorem sortI_sorted : ∀ l, (sortI l).Pairwise (· ≤ ·)
  | [] => .nil
  | x :: l => insI_sorted x _ (sortI_sorted l)
theorem sortI_length (l : List Int) : (sortI l).length = l.length := (sortI_perm l).length_eq
theorem sortedI_eq {ys ns : List Int} (hp : ys.Perm ns) (hs : ys.Pairwise (· ≤ ·)) : ys = sortI ns :=
  (hp.trans (sortI_perm ns).symm).eq_of_pairwise (fun a b _ _ h g => Int.le_antisymm h g) hs (sortI_sorted ns)

/-! ### kinds of lists -/
section
variable {K : KW} {al : Nat → Addr} {n : Nat} {U : List Addr} {H : Hp}
theorem allStr_rep : ∀ {ds : List D} {vs : List V} {ss : List (List Char)}, Reps K al n U H ds vs → allStr ds = some ss → vs = ss.map (fun s => V.str (toS s)) ∧ ds.length = ss.length ∧ ∀ s ∈ ss, s.length ≤ sizeLine
  | [], vs, ss, r, e => by
    simp only [Reps] at r
    cases e
    exact ⟨r, rfl, fun _ h => nomatch h⟩
  | d :: ds, vs, ss, r, e => by
    simp only [Reps] at r
    obtain ⟨v, r', rfl, r1, r2⟩ := r
    cases d with
    | str s =>
      simp only [allStr] at e
      cases h : allStr ds with
      | none => rw [h] at e; cases e
      | some ss' =>
        rw [h] at e
        cases e
        obtain ⟨a, b, c⟩ := allStr_rep r2 h
        simp only [Rep] at r1
        refine ⟨by rw [List.map_cons, a, r1.1], by simp [b], fun s hs => ?_⟩
        rcases List.mem_cons.mp hs with rfl | hs
        · exact r1.2
        · exact c s hs
    | _ => cases e
theorem allInt_rep : ∀ {ds : List D} {vs : List V} {ss : List Int}, Reps K al n U H ds vs → allInt ds = some ss → vs = ss.map V.int ∧ ds.length = ss.length
  | [], vs, ss, r, e => by
    simp only [Reps] at r
    cases e
    exact ⟨r, rfl⟩
  | d :: ds, vs, ss, r, e => by
    simp only [Reps] at r
    obtain ⟨v, r', rfl, r1, r2⟩ := r
    cases d with
    | int s =>
      simp only [allInt] at e
      cases h : allInt ds with
      | none => rw [h] at e; cases e
      | some ss' =>
        rw [h] at e
        cases e
        obtain ⟨a, b⟩ := allInt_rep r2 h
        simp only [Rep] at r1
        exact ⟨by rw [List.map_cons, a, r1], by simp [b]⟩
    | _ => cases e
theorem allBl_rep : ∀ {ds : List D} {vs : List V} {ss : List Bool}, Reps K al n U H ds vs → allBl ds = some ss → vs = ss.map V.bl ∧ ds.length = ss.length
  | [], vs, ss, r, e => by
    simp only [Reps] at r
    cases e
    exact ⟨r, rfl⟩
  | d :: ds, vs, ss, r, e => by
    simp only [Reps] at r
    obtain ⟨v, r', rfl, r1, r2⟩ := r
    cases d with
    | bl s =>
      simp only [allBl] at e
      cases h : allBl ds with
      | none => rw [h] at e; cases e
      | some ss' =>
        rw [h] at e
        cases e
        obtain ⟨a, b⟩ := allBl_rep r2 h
        simp only [Rep] at r1
        exact ⟨by rw [List.map_cons, a, r1], by simp [b]⟩
    | _ => cases e
theorem strs_rep (ss : List (List Char)) (h : ∀ s ∈ ss, s.length ≤ sizeLine) : Reps K al n U H (ss.map .str) (ss.map fun s => V.str (toS s)) := by
  induction ss with
  | nil => simp [Reps]
  | cons s ss ih =>
    simp only [List.map_cons, Reps]
    refine ⟨_, _, rfl, ?_, ih fun x hx => h x (List.mem_cons_of_mem _ hx)⟩
    simp only [Rep]
    exact ⟨trivial, h s (List.mem_cons_self)⟩
theorem ints_rep (ss : List Int) : Reps K al n U H (ss.map .int) (ss.map V.int) := by
  induction ss with
  | nil => simp [Reps]
  | cons s ss ih =>
    simp only [List.map_cons, Reps]
    exact ⟨_, _, rfl, by simp only [Rep], ih⟩
theorem signs_rep (x : List Char) : Reps K al n U H (x.map fun c => .str [c]) (x.map fun c => V.str ⟨#[c.toNat]⟩) := by
  induction x with
  | nil => simp [Reps]
  | cons s ss ih =>
    simp only [List.map_cons, Reps]
    refine ⟨_, _, rfl, ?_, ih⟩
    simp only [Rep]
    exact ⟨rfl, (by decide : 1 ≤ sizeLine)⟩
end

def rC (K : KW) (g : List D → Store → R (D × Store)) : List V → Hp → VK → Prop := fun xs H Q => ∃ al U S ds d S',
  SR K al U S H ∧ Reps K al S.length U H ds xs ∧ g ds S = .ok (d, S') ∧
  ∀ v H' al', Nxt al S.length H al' S'.length H' → SR K al' U S' H' → Rep K al' S'.length U H' d v → Q v H'
section
variable {X : Cx}
/-- the texts of a text's signs -/
theorem signs_vals {x : Str} {acc : Array Value} (h : ItemsOf (SignAt x) acc x.cps.size) : Vals (x.cps.toList.map fun c => V.str ⟨#[c]⟩) acc.toList := by
  have h1 : acc.size = x.cps.size := h.1
  have : ∀ (l : List Nat) (us : List Value) (off : Nat), us.length = l.length → (∀ (j : Nat) (v : Value), us[j]? = some v → ∃ c u, l[j]? = some c ∧ v = Value.str ⟨#[c]⟩ u) → Vals (l.map fun c => V.str ⟨#[c]⟩) us := by
    intro l
    induction l with
    | nil =>
      intro us _ hl _
      cases us with
      | nil => exact .nil
      | cons _ _ => simp at hl
    | cons c l ih =>
      intro us off hl hv
      cases us with
      | nil => simp at hl
      | cons u us =>
        obtain ⟨c', t, e1, e2⟩ := hv 0 u rfl
        simp at e1
        subst e1
        exact .cons ⟨t, e2⟩ (ih us off (by simpa using hl) fun j v e => hv (j + 1) v (by simpa using e))
  refine this _ _ 0 (by simp [h1]) fun j v e => ?_
  obtain ⟨c, u, e1, e2⟩ := h.2 j v (by simpa using e)
  exact ⟨c, u, by simpa using e1, e2⟩
theorem call_tuple_sgn (hc : X.calm = true) : CallR X (.type "tuple") (fun xs H Q => ∃ z, xs = [.str z] ∧ z.length ≤ sizeLine ∧ NewT H (z.cps.toList.map fun c => V.str ⟨#[c]⟩) Q) := by
  intro pins s σ H xs us Q I r h
  obtain ⟨z, rfl, hz, q⟩ := h
  obtain ⟨u, rfl, t, rfl⟩ := vals1 r
  refine call_tuple_str (I.ok.hd hc) z t (fun h' tk acc hk ha => ?_) hz
  have I1 : Inv X pins σ H { s with heap := h', toks := tk } := I.kept hk
  have e : acc = acc.toList.toArray := by simp
  have := lay_tup (s := { s with heap := h', toks := tk }) I1 (signs_vals ha) (by rw [List.length_map, Array.length_toList]; exact hz) q
  rw [← e] at this
  exact this
/-- tuple(a list) -/
theorem call_tuple_ofP : CallR X (.type "tuple") (fun xs H Q => ∃ p ys, xs = [.ref p] ∧ SqL X.kw H p ys ∧ NewT H ys Q) := by
  intro pins s σ H xs us Q I r ⟨p, ys, ex, hq, q⟩
  subst ex
  obtain ⟨u, eu, rx⟩ := vals1 r
  subst eu
  cases rx
  obtain ⟨its, r', pl, hz⟩ := I.list hq
  have hn := r'.length
  exact call_tuple_list pl.isList (fun h' kp => lay_tup (s := { s with heap := h' }) (I.kept (t' := s.toks) kp) r' hz q) (by simp only [List.size_toArray]; omega)
/-- divmod(i, j) -/
theorem call_divmodP : CallR X (.builtin "divmod") (fun xs H Q => ∃ i j, xs = [.int i, .int j] ∧ CDiv i j ∧ NewT H [.int (i / j), .int (i % j)] Q) := by
  intro pins s σ H xs us Q I r ⟨i, j, ex, ⟨h1, h2⟩, q⟩
  subst ex
  obtain ⟨u, u', eu, ⟨t, et⟩, ⟨t', et'⟩⟩ := vals2 r
  subst eu et et'
  refine divmod_int (by omega) ?_ (.inl (PyProof.noPylong_small (by omega)))
  rw [Int.fdiv_eq_ediv_of_nonneg i (by omega), Int.fmod_eq_emod_of_nonneg i (by omega)]
  exact lay_tup (s := { s with toks := s.toks + 1 + 1 }) (vs := [.int (i / j), .int (i % j)]) (its := [.int (i / j) s.toks, .int (i % j) (s.toks + 1)]) (I.tok _) (.cons ⟨_, rfl⟩ (.cons ⟨_, rfl⟩ .nil)) (show 2 ≤ sizeLine by decide) q
theorem call_list_sgn (hc : X.calm = true) : CallR X (.type "list") (fun xs H Q => ∃ z, xs = [.str z] ∧ z.length ≤ sizeLine ∧ ∀ p, H p = none → Q (.ref p) (upd H p (.lst (z.cps.toList.map fun c => V.str ⟨#[c]⟩)))) := by
  intro pins s σ H xs us Q I r h
  obtain ⟨z, rfl, hz, q⟩ := h
  obtain ⟨u, rfl, t, rfl⟩ := vals1 r
  refine call_list_str (I.ok.hd hc) z t (fun h' tk acc c hk hS ha => ?_) hz
  refine ⟨.ref s.heap.objs.size, _, I.laid (t' := tk) (o := .lst (z.cps.toList.map fun c => V.str ⟨#[c]⟩)) hk (Nat.le_refl _) ?_, rfl, q _ (I.hok.fresh (Nat.le_refl _))⟩
  exact ⟨by rw [List.length_map, Array.length_toList]; exact hz, acc.toList, c, signs_vals ha, by simpa using hS⟩
theorem sgn_map (x : List Char) : ((toS x).cps.toList.map fun c => V.str ⟨#[c]⟩) = x.map fun c => V.str ⟨#[c.toNat]⟩ := by
  show ((x.map Char.toNat).toArray.toList.map fun c => V.str ⟨#[c]⟩) = _
  rw [List.toList_toArray, List.map_map]
  rfl
theorem bt_len (m : Bool) : CallR X (.builtin "len") (rC X.kw (bltD m .len)) := by
  intro pins s σ H xs us Q I rv ⟨al, U, S, ds, d, S', sr, rs, e, q⟩
  match ds, rs, e with
  | [], _, e => cases e
  | _ :: _ :: _, _, e => simp [bltD] at e
  | [a], rs, e =>
    simp only [Reps] at rs
    obtain ⟨v, r, rfl, r1, rfl⟩ := rs
    have other : (∀ z, a ≠ .str z) → wpAny (model X.prog X.w) X.A (call (.builtin "len") us) (EP X pins σ Q) X.xe s := fun hS => by
      have e' : (match items S a with
        | some ds => R.ok (D.int ds.length, S)
        | none => match dlenD a S with
          | some k => R.ok (D.int k, S)
          | none => .bad) = R.ok (d, S') := by
        cases a <;> first | exact e | exact absurd rfl (hS _)
      split at e'
      · rename_i ds ei
        cases e'
        obtain ⟨p, vs, rfl, hq, l, rs⟩ := items_rep sr r1 ei
        exact call_len_seq pins s σ H _ us Q I rv ⟨p, vs, rfl, hq, by rw [← rs.length]; exact q _ _ _ .refl sr (by simp only [Rep])⟩
      · split at e'
        · rename_i k ek
          cases e'
          obtain ⟨n, rfl⟩ : ∃ n, a = .ref n := by cases a <;> first | exact ⟨_, rfl⟩ | (simp [dlenD] at ek)
          simp only [dlenD] at ek
          · simp only [Rep] at r1
            obtain ⟨hn, rfl⟩ := r1
            split at ek
            · rename_i ks vs eo
              cases ek
              obtain ⟨kvs, h1, _, h3, _⟩ := sr.obj n _ eo
              have hl : ks.length = kvs.length := by simpa using congrArg List.length h3
              rw [hl] at q
              exact call_lenD pins s σ H _ us Q I rv ⟨_, kvs, rfl, h1, q _ _ _ .refl sr (by simp only [Rep])⟩
            · rename_i ks vs eo
              cases ek
              obtain ⟨xs, bs, us', h1, N, r1, _⟩ := sr.obj n _ eo
              have hl : ks.length = xs.length := by simpa using congrArg List.length N.key
              obtain ⟨u, rfl, rx⟩ := vals1 rv
              cases rx
              have hz := N.len
              refine call_len_dictH N.sys (nd_full I h1 N r1) (by rw [← hl]; rw [sizeLine_eq] at hz; omega) ?_
              rw [← hl]
              exact ⟨.int ((ks.length : Nat) : Int), H, I.tok _, ⟨_, rfl⟩, q _ _ _ .refl sr (by simp only [Rep])⟩
            · cases ek
        · cases e'
    cases a with
    | str z =>
      cases e
      simp only [Rep] at r1
      exact call_len_str pins s σ H _ us Q I rv ⟨toS z, by rw [r1.1], by rw [toS_length]; exact r1.2, by rw [toS_length]; exact q _ _ _ .refl sr (by simp only [Rep])⟩
    | non => exact other fun _ h => nomatch h
    | bl _ => exact other fun _ h => nomatch h
    | int _ => exact other fun _ h => nomatch h
    | tup _ => exact other fun _ h => nomatch h
    | lst _ => exact other fun _ h => nomatch h
    | ref _ => exact other fun _ h => nomatch h
    | fn _ => exact other fun _ h => nomatch h
    | exc _ => exact other fun _ h => nomatch h
theorem bt_tuple (hc : X.calm = true) (m : Bool) : CallR X (.type "tuple") (rC X.kw (bltD m .tuple)) := by
  intro pins s σ H xs us Q I rv ⟨al, U, S, ds, d, S', sr, rs, e, q⟩
  match ds, rs, e with
  | [], _, e => cases e
  | _ :: _ :: _, _, e => simp [bltD] at e
  | [a], rs, e =>
    simp only [Reps] at rs
    obtain ⟨v, r, rfl, r1, rfl⟩ := rs
    have other : (∀ z, a ≠ .str z) → (∀ z, a ≠ .tup z) → wpAny (model X.prog X.w) X.A (call (.type "tuple") us) (EP X pins σ Q) X.xe s := fun hS hT => by
      have e' : (match items S a with
        | some ds => R.ok (D.tup ds, S)
        | none => .bad) = R.ok (d, S') := by
        cases a <;> first | exact e | exact absurd rfl (hS _)
      split at e'
      · rename_i ds ei
        cases e'
        obtain ⟨p, vs, rfl, hq, l, rs⟩ := items_lst hT sr r1 ei
        exact call_tuple_ofP pins s σ H _ us Q I rv ⟨p, vs, rfl, hq, new_tup sr l rs q⟩
      · cases e'
    cases a with
    | str z =>
      cases e
      simp only [Rep] at r1
      refine call_tuple_sgn hc pins s σ H _ us Q I rv ⟨toS z, by rw [r1.1], by rw [toS_length]; exact r1.2, ?_⟩
      rw [sgn_map]
      exact new_tup sr (by simpa using r1.2) (signs_rep z) q
    | tup es =>
      cases e
      have r1' := r1
      simp only [Rep] at r1
      obtain ⟨p, vs, rfl, t, l, rs⟩ := r1
      exact call_tuple_of pins s σ H _ us Q I rv ⟨p, vs, rfl, .inr ⟨t.sq, q _ _ _ .refl sr r1'⟩⟩
    | non => exact other (fun _ h => nomatch h) (fun _ h => nomatch h)
    | bl _ => exact other (fun _ h => nomatch h) (fun _ h => nomatch h)
    | int _ => exact other (fun _ h => nomatch h) (fun _ h => nomatch h)
    | lst _ => exact other (fun _ h => nomatch h) (fun _ h => nomatch h)
    | ref _ => exact other (fun _ h => nomatch h) (fun _ h => nomatch h)
    | fn _ => exact other (fun _ h => nomatch h) (fun _ h => nomatch h)
    | exc _ => exact other (fun _ h => nomatch h) (fun _ h => nomatch h)
theorem list_dcn {pins : List (Addr × Obj)} {s : Shared} {σ : L2.St} {H : Hp} {us : List Value} {Q : VK} {al : Nat → Addr} {U : List Addr} {S S' : Store} {n : Nat} {ks ws : List D} {d : D} (hcalm : X.calm = true) (m : Bool) (I : Inv X pins σ H s) (rv : Vals [V.ref (al n)] us) (sr : SR X.kw al U S H) (eo : S[n]? = some (.dcn ks ws))
    (e : litD m ks S = .ok (d, S')) (q : ∀ v H' al', Nxt al S.length H al' S'.length H' → SR X.kw al' U S' H' → Rep X.kw al' S'.length U H' d v → Q v H') : wpAny (model X.prog X.w) X.A (call (.type "list") us) (EP X pins σ Q) X.xe s := by
  rw [Vals.ref1 rv]
  obtain ⟨xs, bs, us2, h1, N, r1, r2⟩ := sr.obj n _ eo
  have hraw : ∃ es ep, s.heap.DictRaw (al n) es ep ∧ es.toList = xs.map fun x => (⟨x.1.hash X.w, .ref x.2.1, x.2.2⟩ : DictEntry) := by
    obtain ⟨o, es, ep, g1, g2, g3, g4⟩ := (show ObjOk X.prog X.w H s.heap (al n) (.ext (ndP X.w (al n) xs)) from I.hok (al n) _ h1).1
    exact ⟨es, ep, ⟨o, g1, g2, g3⟩, g4⟩
  obtain ⟨es, ep, hraw, hes⟩ := hraw
  have hxl : ks.length = xs.length := by
    have := congrArg List.length N.key
    rw [List.length_map, List.length_map] at this
    exact this
  have hel : es.size = xs.length := by
    have := congrArg List.length hes
    rw [List.length_map, Array.length_toList] at this
    exact this
  have h16 : es.size ≤ sizeLine := by rw [hel, ← hxl]; exact N.len
  refine PySem.W.kdl_call (PySem.KdlSrc.rawDict (prog := X.prog) (w := X.w) (es := es) (ep := ep) N.sys) (I.ok.hd hcalm) hraw h16 fun h' tk acc c' kp hD hacc => ?_
  have hal : acc.toList.length = es.size := by rw [Array.length_toList, hacc.1]
  have hat : ∀ (j : Nat) (v : Value), acc.toList[j]? = some v → ∃ x, xs[j]? = some x ∧ v = .ref x.2.1 := fun j v ej => by
    obtain ⟨hi, ev⟩ := hacc.2 j v (by rw [← Array.getElem?_toList]; exact ej)
    have e1 : es.toList[j]? = some es[j] := by rw [Array.getElem?_toList, Array.getElem?_eq_getElem hi]
    rw [hes, List.getElem?_map, Option.map_eq_some_iff] at e1
    obtain ⟨x, hx, e2⟩ := e1
    exact ⟨x, hx, by rw [ev, ← e2]⟩
  have hS : Vals bs acc.toList := by
    rw [N.ref]
    have key : ∀ (ys : List (NestedKey × Addr × Value)) (vs : List Value), vs.length = ys.length → (∀ (j : Nat) (v : Value), vs[j]? = some v → ∃ x, ys[j]? = some x ∧ v = .ref x.2.1) → Vals (ys.map fun x => V.ref x.2.1) vs := by
      intro ys
      induction ys with
      | nil =>
        intro vs hl _
        rw [List.length_eq_zero_iff.mp hl]
        exact .nil
      | cons y ys ih =>
        intro vs hl hv
        cases vs with
        | nil => cases hl
        | cons v vs =>
          obtain ⟨x, hx, ev⟩ := hv 0 v rfl
          have hx : y = x := Option.some.inj hx
          subst hx
          refine .cons ev (ih vs (by simpa using hl) fun j w hj => ?_)
          obtain ⟨x, hx, ew⟩ := hv (j + 1) w (by simpa using hj)
          exact ⟨x, by simpa using hx, ew⟩
    exact key xs _ (by rw [hal, hel]) hat
  have hz : bs.length ≤ sizeLine := by rw [N.ref, List.length_map, ← hxl]; exact N.len
  exact ⟨.ref s.heap.objs.size, upd H s.heap.objs.size (.lst bs), I.laid (t' := tk) (o := .lst bs) kp (Nat.le_refl _) ⟨hz, acc.toList, c', hS, by rw [Array.toArray_toList]; exact hD⟩, rfl, new_lit sr e N.len r1 q _ (I.hok.fresh (Nat.le_refl _))⟩
theorem bt_list (hc : X.calm = true) (m : Bool) : CallR X (.type "list") (rC X.kw (bltD m .list)) := by
  intro pins s σ H xs us Q I rv ⟨al, U, S, ds, d, S', sr, rs, e, q⟩
  match ds, rs, e with
  | [], _, e => cases e
  | _ :: _ :: _, _, e => simp [bltD] at e
  | [a], rs, e =>
    simp only [Reps] at rs
    obtain ⟨v, r, rfl, r1, rfl⟩ := rs
    have other : (∀ z, a ≠ .str z) → wpAny (model X.prog X.w) X.A (call (.type "list") us) (EP X pins σ Q) X.xe s := fun hS => by
      have e' : (match items S a with
        | some ds => litD m ds S
        | none => match keysD S a with
          | some ks => litD m ks S
          | none => .bad) = R.ok (d, S') := by
        cases a <;> first | exact e | exact absurd rfl (hS _)
      split at e'
      · rename_i ds ei
        obtain ⟨p, vs, rfl, hq, l, rs⟩ := items_rep sr r1 ei
        exact call_list_of pins s σ H _ us Q I rv ⟨p, vs, rfl, hq, new_lit sr e' l rs q⟩
      · split at e'
        · rename_i ks ek
          unfold keysD at ek
          split at ek
          · rename_i n
            split at ek
            · rename_i ks' ws eo
              cases ek
              simp only [Rep] at r1
              obtain ⟨_, rfl⟩ := r1
              exact list_dcn hc m I rv sr eo e' q
            · cases ek
          · cases ek
        · cases e'
    cases a with
    | str z =>
      simp only [Rep] at r1
      refine call_list_sgn hc pins s σ H _ us Q I rv ⟨toS z, by rw [r1.1], by rw [toS_length]; exact r1.2, ?_⟩
      rw [sgn_map]
      exact new_lit (ds := z.map fun c => .str [c]) sr e (by simpa using r1.2) (signs_rep z) q
    | non => exact other fun _ h => nomatch h
    | bl _ => exact other fun _ h => nomatch h
    | int _ => exact other fun _ h => nomatch h
    | tup _ => exact other fun _ h => nomatch h
    | lst _ => exact other fun _ h => nomatch h
    | ref _ => exact other fun _ h => nomatch h
    | fn _ => exact other fun _ h => nomatch h
    | exc _ => exact other fun _ h => nomatch h
theorem int2_eq {xs : List D} {p : Int × Int} (h : int2 xs = some p) : xs = [.int p.1, .int p.2] := by
  unfold int2 at h
  split at h
  · cases h; rfl
  · cases h
theorem int2_rep {K : KW} {al : Nat → Addr} {n : Nat} {U : List Addr} {H : Hp} {i j : Int} {vs : List V} (h : Reps K al n U H [.int i, .int j] vs) : vs = [.int i, .int j] := by
  simp only [Reps, Rep] at h
  obtain ⟨v, r, rfl, rfl, v2, r2, rfl, rfl, rfl⟩ := h
  rfl
theorem bt_divmod (m : Bool) : CallR X (.builtin "divmod") (rC X.kw (bltD m .divmod)) := by
  intro pins s σ H xs us Q I rv ⟨al, U, S, ds, d, S', sr, rs, e, q⟩
  simp only [bltD] at e
  split at e
  · rename_i i j ei
    have eq := int2_eq ei
    subst eq
    split at e
    · rename_i h
      cases e
      refine call_divmodP pins s σ H _ us Q I rv ⟨i, j, int2_rep rs, ⟨h.1, by omega⟩, new_tup (ds := [.int (i / j), .int (i % j)]) sr (show 2 ≤ sizeLine by decide) ?_ q⟩
      simp only [Reps, Rep]
      exact ⟨_, _, rfl, rfl, _, _, rfl, rfl, rfl⟩
    · cases e
  · cases e
theorem keys_str : ∀ (ks : List D) (kvs : List (Key × V)) (ss : List (List Char)), ks.map keyD = kvs.map (fun p => some p.1) → allStr ks = some ss → kvs.map (·.1) = (ss.map toS).map Sum.inr ∧ ∀ s ∈ ss, D.str s ∈ ks := by
  intro ks
  induction ks with
  | nil =>
    intro kvs ss e1 e2
    cases e2
    cases kvs with
    | nil => exact ⟨rfl, fun _ h => nomatch h⟩
    | cons _ _ => simp at e1
  | cons k ks ih =>
    intro kvs ss e1 e2
    cases kvs with
    | nil => simp at e1
    | cons kv kvs =>
      simp only [List.map_cons, List.cons.injEq] at e1
      cases k with
      | str z =>
        simp only [allStr] at e2
        cases h : allStr ks with
        | none => rw [h] at e2; cases e2
        | some ss' =>
          rw [h] at e2
          cases e2
          have e3 : some (Sum.inr (toS z)) = some kv.1 := e1.1
          obtain ⟨a, b⟩ := ih kvs ss' e1.2 h
          refine ⟨by rw [List.map_cons, List.map_cons, List.map_cons, a, ← Option.some.inj e3], fun s hs => ?_⟩
          rcases List.mem_cons.mp hs with rfl | hs
          · exact List.mem_cons_self
          · exact List.mem_cons_of_mem _ (b s hs)
      | _ => cases e2
theorem reps_each {al : Nat → Addr} {n : Nat} {U : List Addr} {pins : List (Addr × Obj)} {σ : L2.St} {H : Hp} {s : Shared} (I : Inv X pins σ H s) : ∀ {ds : List D} {vs : List V} {us : List Value}, ds.all (okD 50) = true → Reps X.kw al n U H ds vs → Vals vs us → PySem.W.EachIs (fun v d => (∃ x, RelV x v ∧ Rep X.kw al n U H d x) ∧ ∃ as, Reads s.heap v (D.py d) as) us ds
  | [], vs, us, _, r, v => by
    simp only [Reps] at r
    subst r
    cases v
    exact .nil
  | d :: ds, vs, us, h, r, v => by
    rw [List.all_cons, Bool.and_eq_true] at h
    simp only [Reps] at r
    obtain ⟨x, r', rfl, r1, r2⟩ := r
    cases v with
    | cons v1 v2 =>
      obtain ⟨as, q⟩ := Dp.reads I d.py x _ (Rep.dp 50 d x h.1 r1) v1
      exact .cons ⟨⟨x, v1, r1⟩, as, q⟩ (reps_each I h.2 r2 v2)
theorem each_reps {K : KW} {al : Nat → Addr} {n : Nat} {U : List Addr} {H : Hp} : ∀ {us : List Value} {ds : List D}, PySem.W.EachIs (fun v d => ∃ x, RelV x v ∧ Rep K al n U H d x) us ds → ∃ vs, Vals vs us ∧ Reps K al n U H ds vs
  | _, [], h => by
    cases h
    exact ⟨[], .nil, by simp only [Reps]⟩
  | _, d :: ds, h => by
    cases h with
    | cons h1 h2 =>
      obtain ⟨x, a, b⟩ := h1
      obtain ⟨vs, c, e⟩ := each_reps h2
      exact ⟨x :: vs, .cons a c, by simp only [Reps]; exact ⟨x, vs, rfl, b, e⟩⟩
theorem sorted_tupD {pins : List (Addr × Obj)} {s : Shared} {σ : L2.St} {H : Hp} {v : V} {us : List Value} {Q : VK} {al : Nat → Addr} {U : List Addr} {S S' : Store} {es : List D} {d : D} (hu : X.A.units + 64 < cLine) (m : Bool) (I : Inv X pins σ H s) (rv : Vals [v] us) (sr : SR X.kw al U S H) (r1 : Rep X.kw al S.length U H (.tup es) v)
    (e : bltD m .sorted [.tup es] S = .ok (d, S')) (q : ∀ v H' al', Nxt al S.length H al' S'.length H' → SR X.kw al' U S' H' → Rep X.kw al' S'.length U H' d v → Q v H') : wpAny (model X.prog X.w) X.A (call (.builtin "sorted") us) (EP X pins σ Q) X.xe s := by
  have e : (if 2 ≤ es.length ∧ es.all (okD 50) ∧ es.all tupD ∧ allAlk es then litD m (es.mergeSort leD) S else .bad) = .ok (d, S') := e
  split at e
  · rename_i hs
    have hs := hs.2
    simp only [Rep] at r1
    obtain ⟨p, vs, rfl, t, l, rs⟩ := r1
    obtain ⟨its, rvs, ⟨o, ho, hc, n, hd⟩, _⟩ := I.tuple t.sq
    cases rv with
    | cons rx rt =>
      cases rt
      cases rx
      have el := reps_each I hs.1 rs rvs
      have hal : PySem.W.AllAlike (es.map D.py) := by
        intro d1 h1 d2 h2
        obtain ⟨a1, m1, rfl⟩ := List.mem_map.mp h1
        obtain ⟨a2, m2, rfl⟩ := List.mem_map.mp h2
        exact List.all_eq_true.mp (List.all_eq_true.mp hs.2.2 a1 m1) a2 m2
      have hk : PySem.W.Sortable (es.map D.py) := .inl fun d1 h1 => by
        obtain ⟨a1, m1, rfl⟩ := List.mem_map.mp h1
        have := List.all_eq_true.mp hs.2.1 a1 m1
        cases a1 with
        | tup ts =>
          cases ts with
          | nil => cases this
          | cons t ts => exact ⟨t.py, D.pys ts, rfl⟩
        | _ => cases this
      refine sort_tup_data (bs := es) (enc := D.py) (R := fun v d => ∃ x, RelV x v ∧ Rep X.kw al S.length U H d x) ho hc hd (el.mono fun _ _ h => h.1) (el.mono fun _ _ h => h.2) hal hk l (fun b hb => ?_) fun out hlen eo => ?_
      · have := (okD_lay 50 b (List.all_eq_true.mp hs.1 b hb)).2
        omega
      · have e5 : PySem.W.dataLe false D.py = leD := by
          funext a b
          rw [PySem.W.dataLe_eq]
          rfl
        rw [e5] at eo
        obtain ⟨vs2, v1, v2⟩ := each_reps eo
        obtain ⟨ep, he'⟩ := PyProof.Rows.sortedAll_at s.heap its out.toArray
        have lz : vs2.length ≤ sizeLine := by
          rw [← v2.length, List.length_mergeSort]
          exact l
        have lz2 : (es.mergeSort leD).length ≤ sizeLine := by rw [List.length_mergeSort]; exact l
        exact ⟨.ref _, upd H (s.heap.objs.size + 1) (.lst vs2), I.laid (t' := s.toks) (fun _ _ => PyProof.Rows.sortedAll_old) (Nat.le_succ _) ⟨lz, out, ep, v1, he'⟩, rfl, new_lit sr e lz2 v2 q _ (I.hok.fresh (Nat.le_succ _))⟩
  · cases e
theorem sorted_dcn {pins : List (Addr × Obj)} {s : Shared} {σ : L2.St} {H : Hp} {us : List Value} {Q : VK} {al : Nat → Addr} {U : List Addr} {S S' : Store} {n : Nat} {ks ws : List D} {d : D} (hcalm : X.calm = true) (hu : X.A.units + 64 < cLine) (m : Bool) (I : Inv X pins σ H s) (rv : Vals [V.ref (al n)] us) (sr : SR X.kw al U S H) (eo : S[n]? = some (.dcn ks ws))
    (e : (if ks.length = 1 then litD m ks S else if 2 ≤ ks.length ∧ ks.all (okD 50) ∧ ks.all tupD ∧ allAlk ks then litD m (ks.mergeSort leD) S else .bad) = .ok (d, S')) (q : ∀ v H' al', Nxt al S.length H al' S'.length H' → SR X.kw al' U S' H' → Rep X.kw al' S'.length U H' d v → Q v H') : wpAny (model X.prog X.w) X.A (call (.builtin "sorted") us) (EP X pins σ Q) X.xe s := by
  rw [Vals.ref1 rv]
  obtain ⟨xs, bs, us2, h1, N, r1, r2⟩ := sr.obj n _ eo
  have hraw : ∃ es ep, s.heap.DictRaw (al n) es ep ∧ es.toList = xs.map fun x => (⟨x.1.hash X.w, .ref x.2.1, x.2.2⟩ : DictEntry) := by
    obtain ⟨o, es, ep, g1, g2, g3, g4⟩ := (show ObjOk X.prog X.w H s.heap (al n) (.ext (ndP X.w (al n) xs)) from I.hok (al n) _ h1).1
    exact ⟨es, ep, ⟨o, g1, g2, g3⟩, g4⟩
  obtain ⟨es, ep, hraw, hes⟩ := hraw
  have hxl : ks.length = xs.length := by
    have := congrArg List.length N.key
    rw [List.length_map, List.length_map] at this
    exact this
  have hel : es.size = xs.length := by
    have := congrArg List.length hes
    rw [List.length_map, Array.length_toList] at this
    exact this
  have h16 : es.size ≤ sizeLine := by rw [hel, ← hxl]; exact N.len
  refine Calls.call_function_entry PyProof.Rows.kind_sorted PyProof.Rows.plain_sorted PyProof.Rows.entry_sorted (PyProof.Rows.args_sorted1 _) ?_
  unfold Builtin.«sorted»
  refine wpAny_bind (m := checkCount "sorted" 1 1 _) (wpAny_pure ?_)
  refine wpAny_bind (PySem.W.kdu_collect (A := X.A.in1) (PySem.KdlSrc.rawDict (prog := X.prog) (w := X.w) (es := es) (ep := ep) N.sys) (I.ok.hd hcalm) hraw h16 fun h' tk acc hk hacc => ?_)
  have hal : acc.toList.length = es.size := by rw [Array.length_toList, hacc.1]
  have hat : ∀ (j : Nat) (v : Value), acc.toList[j]? = some v → ∃ x, xs[j]? = some x ∧ v = .ref x.2.1 := fun j v ej => by
    obtain ⟨hi, ev⟩ := hacc.2 j v (by rw [← Array.getElem?_toList]; exact ej)
    have e1 : es.toList[j]? = some es[j] := by rw [Array.getElem?_toList, Array.getElem?_eq_getElem hi]
    rw [hes, List.getElem?_map, Option.map_eq_some_iff] at e1
    obtain ⟨x, hx, e2⟩ := e1
    exact ⟨x, hx, by rw [ev, ← e2]⟩
  have hS : Vals bs acc.toList := by
    rw [N.ref]
    have key : ∀ (ys : List (NestedKey × Addr × Value)) (vs : List Value), vs.length = ys.length → (∀ (j : Nat) (v : Value), vs[j]? = some v → ∃ x, ys[j]? = some x ∧ v = .ref x.2.1) → Vals (ys.map fun x => V.ref x.2.1) vs := by
      intro ys
      induction ys with
      | nil =>
        intro vs hl _
        rw [List.length_eq_zero_iff.mp hl]
        exact .nil
      | cons y ys ih =>
        intro vs hl hv
        cases vs with
        | nil => cases hl
        | cons v vs =>
          obtain ⟨x, hx, ev⟩ := hv 0 v rfl
          have hx : y = x := Option.some.inj hx
          subst hx
          refine .cons ev (ih vs (by simpa using hl) fun j w hj => ?_)
          obtain ⟨x, hx, ew⟩ := hv (j + 1) w (by simpa using hj)
          exact ⟨x, by simpa using hx, ew⟩
    exact key xs _ (by rw [hal, hel]) hat
  have I1 : Inv X pins σ H { s with heap := h', toks := tk } := I.kept hk
  refine wpAny_bind (wpAny_newList ?_ (by rw [hal]; exact h16))
  have hoL : (h'.push (seqObj "list" acc.toList.toArray 0)).get? h'.objs.size = some (seqObj "list" acc.toList.toArray 0) := Heap.get?_push_size _ rfl
  show wpAny _ _ _ _ _ { s with heap := h'.push (seqObj "list" acc.toList.toArray 0), toks := tk }
  have fin : ∀ (es2 : List D) (vs2 : List V) (out : List Value), litD m es2 S = .ok (d, S') → es2.length ≤ sizeLine → vs2.length ≤ sizeLine → Vals vs2 out → Reps X.kw al S.length U H es2 vs2 →
      EP X pins σ Q (.ref h'.objs.size) { s with heap := PyProof.Rows.sortedHeap (h'.push (seqObj "list" acc.toList.toArray 0)) h'.objs.size acc.toList out.toArray, toks := tk } := fun es2 vs2 out e2 l1 l2 v1 v2 => by
    obtain ⟨e', he'⟩ := PyProof.Rows.sortedHeap_at (vs := acc.toList) (out := out.toArray) hoL
    refine ⟨.ref h'.objs.size, upd H h'.objs.size (.lst vs2), I1.laid (t' := tk) (fun b u eb => ?_) (Nat.le_refl _) (show ObjOk X.prog X.w _ _ _ (.lst vs2) from ⟨l2, out, e', v1, he'⟩), rfl, new_lit sr e2 l1 v2 q _ (I1.hok.fresh (Nat.le_refl _))⟩
    have hb : b < h'.objs.size := Heap.lt_size eb
    rw [PyProof.Rows.sortedHeap_old (Nat.ne_of_lt hb) (by rw [Heap.size_push]; exact Nat.lt_succ_of_lt hb)]
    exact Heap.get?_push_of_some _ eb
  split at e
  · rename_i h1l
    obtain ⟨v, hv⟩ : ∃ v, acc.toList = [v] := List.length_eq_one_iff.mp (by rw [hal, hel, ← hxl]; exact h1l)
    have hf := fin ks bs acc.toList e N.len (by rw [← r1.length]; exact N.len) hS r1
    rw [hv] at hoL hf ⊢
    exact wpAny_bind (wpAny_holding (wpAny_call_entry PyProof.Rows.slot_list_sort ⟨_, hoL, rfl⟩ PyProof.Rows.entry_list_sort (sort1_tree (s := { s with heap := h'.push (seqObj "list" [v].toArray 0), toks := tk }) hoL ⟨_, rfl, wpAny_pure ⟨_, rfl, hf⟩⟩) (PyProof.Rows.args_list_sort _)))
  · split at e
    · rename_i hs
      have hs := hs.2
      have el := reps_each I1 hs.1 r1 hS
      have hala : PySem.W.AllAlike (ks.map D.py) := by
        intro d1 h1 d2 h2
        obtain ⟨a1, m1, rfl⟩ := List.mem_map.mp h1
        obtain ⟨a2, m2, rfl⟩ := List.mem_map.mp h2
        exact List.all_eq_true.mp (List.all_eq_true.mp hs.2.2 a1 m1) a2 m2
      have hkS : PySem.W.Sortable (ks.map D.py) := .inl fun d1 h1 => by
        obtain ⟨a1, m1, rfl⟩ := List.mem_map.mp h1
        have := List.all_eq_true.mp hs.2.1 a1 m1
        cases a1 with
        | tup ts =>
          cases ts with
          | nil => cases this
          | cons t ts => exact ⟨t.py, D.pys ts, rfl⟩
        | _ => cases this
      have er : PySem.W.EachIs (fun v d => ∃ as, Reads (h'.push (seqObj "list" acc.toList.toArray 0)) v (D.py d) as ∧ h'.objs.size ∉ as) acc.toList ks := el.mono fun v b ⟨_, as, ra⟩ => ⟨as, PyProof.Rows.Reads.keeps (fun _ _ hb => Heap.get?_push_of_some _ hb) ra, fun hm => by
        obtain ⟨o, ho⟩ := PyProof.On.reads_mem_get ra _ hm
        exact Nat.lt_irrefl _ (Heap.lt_size ho)⟩
      refine wpAny_bind (wpAny_holding (wpAny_mono (PySem.W.list_sort_data (s := { s with heap := h'.push (seqObj "list" acc.toList.toArray 0), toks := tk }) (bs := ks) (enc := D.py) (R := fun v d => ∃ x, RelV x v ∧ Rep X.kw al S.length U H d x) (Q := fun _ s' => EP X pins σ Q (.ref h'.objs.size) s') hoL (el.mono fun _ _ h => h.1) er hala hkS N.len (fun b hb => ?_) fun out hlen eo2 => ?_) (fun _ _ h => wpAny_pure ⟨_, rfl, h⟩) fun _ _ h => h))
      · have := (okD_lay 50 b (List.all_eq_true.mp hs.1 b hb)).2
        show X.A.in1.units + 1 + _ < _
        have hin : X.A.in1.units = X.A.units + 1 := rfl
        omega
      · have e5 : PySem.W.dataLe false D.py = leD := by
          funext a b
          rw [PySem.W.dataLe_eq]
          rfl
        rw [e5] at eo2
        obtain ⟨vs2, v1, v2⟩ := each_reps eo2
        exact fin (ks.mergeSort leD) vs2 out e (by rw [List.length_mergeSort]; exact N.len) (by rw [← v2.length, List.length_mergeSort]; exact N.len) v1 v2
    · cases e
theorem bt_sorted (hc : X.calm = true) (hu : X.A.units + 64 < cLine) (m : Bool) : CallR X (.builtin "sorted") (rC X.kw (bltD m .sorted)) := by
  intro pins s σ H xs us Q I rv ⟨al, U, S, ds, d, S', sr, rs, e, q⟩
  match ds, rs, e with
  | [], _, e => cases e
  | _ :: _ :: _, _, e => simp [bltD] at e
  | [a], rs, e =>
    simp only [Reps] at rs
    obtain ⟨v, r, rfl, r1, rfl⟩ := rs
    by_cases hT0 : ∃ ts, a = .tup ts
    · obtain ⟨ts, rfl⟩ := hT0
      exact sorted_tupD hu m I rv sr r1 e q
    have hT : ∀ ts, a ≠ .tup ts := fun ts h => hT0 ⟨ts, h⟩
    have hstr : ∀ (m' : Bool) (ks : List D) (ss : List (List Char)), (∀ x ∈ ss, x.length ≤ sizeLine) → ss.length < 64 → litD m ((sortS ss).map .str) S = .ok (d, S') → ∀ ys p', ys.Perm (ss.map toS) → sortedS ys = true → H p' = none → Q (.ref p') (upd H p' (.lst (ys.map V.str))) := by
      intro _ _ ss hl h64 e ys p' hp hs hn
      have hl2 : ∀ x ∈ sortS ss, x.length ≤ sizeLine := fun x hx => hl x ((sortS_perm ss).mem_iff.mp hx)
      rw [sorted_eq hp hs, List.map_map]
      exact new_lit sr e (by rw [List.length_map, sortS_length]; exact small64 h64) (strs_rep _ hl2) q p' hn
    have e : (match items S a with
    | some ds => match allStr ds with
      | some ss => if ss.length < 64 then litD m ((sortS ss).map .str) S else .bad
      | none => match allInt ds with
        | some ns => if ns.length < 64 then litD m ((sortI ns).map .int) S else .bad
        | none => if ds.length ≤ 1 then litD m ds S else if ds.all (okD 50) ∧ ds.all tupD ∧ allAlk ds then litD m (ds.mergeSort leD) S else .bad
    | none => match a with
      | .ref n => match S[n]? with
        | some (.dct ks _) => match allStr ks with
          | some ss => if ss.length < 64 then litD m ((sortS ss).map .str) S else .bad
          | none => .bad
        | some (.dcn ks _) => if ks.length = 1 then litD m ks S else if 2 ≤ ks.length ∧ ks.all (okD 50) ∧ ks.all tupD ∧ allAlk ks then litD m (ks.mergeSort leD) S else .bad
        | _ => .bad
      | _ => .bad) = .ok (d, S') := by
      cases a with
      | tup ts => exact absurd rfl (hT ts)
      | _ => exact e
    split at e
    · rename_i es ei
      obtain ⟨p, vs, rfl, hq, l, rs⟩ := items_lst hT sr r1 ei
      split at e
      · rename_i ss es'
        split at e
        · rename_i h64
          obtain ⟨ev, el, hl⟩ := allStr_rep rs es'
          exact cr_sortedS pins s σ H _ us Q I rv ⟨p, ss.map toS, rfl, by rw [List.map_map]; rw [ev] at hq; exact hq, by simpa using h64, hstr m [] ss hl h64 e⟩
        · cases e
      · split at e
        · rename_i ss es'
          split at e
          · rename_i h64
            obtain ⟨ev, el⟩ := allInt_rep rs es'
            refine cr_sorted pins s σ H _ us Q I rv ⟨p, ss, rfl, by rw [ev] at hq; exact hq, h64, fun ys p' hp hs hn => ?_⟩
            rw [sortedI_eq hp hs]
            exact new_lit sr e (by rw [List.length_map, sortI_length]; exact small64 h64) (ints_rep _) q p' hn
          · cases e
        · have e1 : allStr es = none := by assumption
          split at e
          · rename_i hl
            match es, hl, e1, rs with
            | [], _, e1, _ => cases e1
            | [y], _, _, rs =>
              have rs' := rs
              simp only [Reps] at rs
              obtain ⟨x, _, rfl, _, rfl⟩ := rs
              exact cr_sorted1 pins s σ H _ us Q I rv ⟨p, x, rfl, hq, new_lit sr e (by show 1 ≤ sizeLine; decide) rs' q⟩
          · split at e
            · rename_i hs
              obtain ⟨its, rvs, pl, _⟩ := I.list hq
              cases rv with
              | cons rx rt =>
                cases rt
                cases rx
                have el := reps_each I hs.1 rs rvs
                have hal : PySem.W.AllAlike (es.map D.py) := by
                  intro d1 h1 d2 h2
                  obtain ⟨a1, m1, rfl⟩ := List.mem_map.mp h1
                  obtain ⟨a2, m2, rfl⟩ := List.mem_map.mp h2
                  exact List.all_eq_true.mp (List.all_eq_true.mp hs.2.2 a1 m1) a2 m2
                have hk : PySem.W.Sortable (es.map D.py) := .inl fun d1 h1 => by
                  obtain ⟨a1, m1, rfl⟩ := List.mem_map.mp h1
                  have := List.all_eq_true.mp hs.2.1 a1 m1
                  cases a1 with
                  | tup ts =>
                    cases ts with
                    | nil => cases this
                    | cons t ts => exact ⟨t.py, D.pys ts, rfl⟩
                  | _ => cases this
                have hL : es.length ≤ sizeLine := l
                refine PySem.W.sorted_data (bs := es) (enc := D.py) (R := fun v d => ∃ x, RelV x v ∧ Rep X.kw al S.length U H d x) pl.isList (el.mono fun _ _ h => h.1) (el.mono fun _ _ h => h.2) hal hk hL (fun b hb => ?_) fun out hlen eo => ?_
                · have := (okD_lay 50 b (List.all_eq_true.mp hs.1 b hb)).2
                  omega
                · have e5 : PySem.W.dataLe false D.py = leD := by
                    funext a b
                    rw [PySem.W.dataLe_eq]
                    rfl
                  rw [e5] at eo
                  obtain ⟨vs2, v1, v2⟩ := each_reps eo
                  obtain ⟨ep, he'⟩ := PyProof.Rows.sortedAll_at s.heap its out.toArray
                  have lz : vs2.length ≤ sizeLine := by
                    rw [← v2.length, List.length_mergeSort]
                    exact hL
                  have lz2 : (es.mergeSort leD).length ≤ sizeLine := by rw [List.length_mergeSort]; exact hL
                  exact ⟨.ref _, upd H (s.heap.objs.size + 1) (.lst vs2), I.laid (t' := s.toks) (fun _ _ => PyProof.Rows.sortedAll_old) (Nat.le_succ _) ⟨lz, out, ep, v1, he'⟩, rfl, new_lit sr e lz2 v2 q _ (I.hok.fresh (Nat.le_succ _))⟩
            · cases e
    · cases a with
      | ref n =>
        simp only at e
        split at e
        · rename_i ks vs eo
          split at e
          · rename_i ss es'
            split at e
            · rename_i h64
              simp only [Rep] at r1
              obtain ⟨hm, rfl⟩ := r1
              obtain ⟨kvs, h1, l, r1, r2, r3, r4⟩ := sr.obj n _ eo
              obtain ⟨hk, hmem⟩ := keys_str ks kvs ss r1 es'
              exact call_sortedD hc pins s σ H _ us Q I rv ⟨_, kvs, ss.map toS, rfl, .inl h1, hk, by simpa using h64, hstr m [] ss (fun x hx => r4 x (hmem x hx)) h64 e⟩
            · cases e
          · cases e
        · rename_i ks vs eo
          simp only [Rep] at r1
          obtain ⟨hm, rfl⟩ := r1
          exact sorted_dcn hc hu m I rv sr eo e q
        · cases e
      | _ => cases e
theorem str_text (x : String) : (Str.ofString x) = toS x.toList := Str.ofString_eq_toList x
theorem bt_strI (m : Bool) : CallR X (.type "str") (rC X.kw (bltD m .strI)) := by
  intro pins s σ H xs us Q I rv ⟨al, U, S, ds, d, S', sr, rs, e, q⟩
  replace e : strID ds S = .ok (d, S') := e
  unfold strID at e
  split at e <;> try (cases e; done)
  rename_i i
  simp only [Reps, Rep] at rs
  obtain ⟨v, r, rfl, rfl, rfl⟩ := rs
  split at e <;> try (cases e; done)
  rename_i h
  have h2 := int_text_length_le (k := 1920) (by decide) h
  refine call_str_int pins s σ H _ us Q I rv ⟨i, rfl, h, ?_⟩
  generalize toString i = x at e h2 ⊢
  cases e
  have h3 : sizeLine = 16777216 := by decide
  have h4 : x.toList.length = x.length := String.length_toList
  refine q _ _ _ .refl sr ?_
  simp only [Rep]
  exact ⟨congrArg V.str (str_text x), by omega⟩
theorem bt_max2 (hc : X.calm = true) (m : Bool) : CallR X (.builtin "max") (rC X.kw (bltD m .max2)) := by
  intro pins s σ H xs us Q I rv ⟨al, U, S, ds, d, S', sr, rs, e, q⟩
  simp only [bltD] at e
  split at e
  · rename_i i j ei
    have eq := int2_eq ei
    subst eq
    cases e
    exact call_max2 hc pins s σ H _ us Q I rv ⟨i, j, int2_rep rs, q _ _ _ .refl sr (by simp only [Rep])⟩
  · cases e
theorem bt_min2 (hc : X.calm = true) (m : Bool) : CallR X (.builtin "min") (rC X.kw (bltD m .min2)) := by
  intro pins s σ H xs us Q I rv ⟨al, U, S, ds, d, S', sr, rs, e, q⟩
  simp only [bltD] at e
  split at e
  · rename_i i j ei
    have eq := int2_eq ei
    subst eq
    cases e
    exact call_min2 hc pins s σ H _ us Q I rv ⟨i, j, int2_rep rs, q _ _ _ .refl sr (by simp only [Rep])⟩
  · cases e
theorem bt_all (hc : X.calm = true) (m : Bool) : CallR X (.builtin "all") (rC X.kw (bltD m .all)) := by
  intro pins s σ H xs us Q I rv ⟨al, U, S, ds, d, S', sr, rs, e, q⟩
  match ds, rs, e with
  | [], _, e => cases e
  | _ :: _ :: _, _, e => simp [bltD] at e
  | [a], rs, e =>
    simp only [Reps] at rs
    obtain ⟨v, r, rfl, r1, rfl⟩ := rs
    have hT : ∀ ts, a ≠ .tup ts := fun ts h => by subst h; cases e
    have e : (match items S a with
    | some ds => match allBl ds with
      | some bs => .ok (.bl (bs.all id), S)
      | none => .bad
    | none => .bad) = R.ok (d, S') := by
      cases a with
      | tup ts => exact absurd rfl (hT ts)
      | _ => exact e
    split at e
    · rename_i es ei
      obtain ⟨p, vs, rfl, hq, l, rs⟩ := items_lst hT sr r1 ei
      split at e
      · rename_i bs eb
        obtain ⟨ev, el⟩ := allBl_rep rs eb
        cases e
        exact cr_all hc pins s σ H _ us Q I rv ⟨p, bs, rfl, by rw [ev] at hq; exact hq, q _ _ _ .refl sr (by simp only [Rep])⟩
      · cases e
    · cases e
theorem bt_any (hc : X.calm = true) (m : Bool) : CallR X (.builtin "any") (rC X.kw (bltD m .any)) := by
  intro pins s σ H xs us Q I rv ⟨al, U, S, ds, d, S', sr, rs, e, q⟩
  match ds, rs, e with
  | [], _, e => cases e
  | _ :: _ :: _, _, e => simp [bltD] at e
  | [a], rs, e =>
    simp only [Reps] at rs
    obtain ⟨v, r, rfl, r1, rfl⟩ := rs
    have hT : ∀ ts, a ≠ .tup ts := fun ts h => by subst h; cases e
    have e : (match items S a with
    | some ds => match allBl ds with
      | some bs => .ok (.bl (bs.any id), S)
      | none => .bad
    | none => .bad) = R.ok (d, S') := by
      cases a with
      | tup ts => exact absurd rfl (hT ts)
      | _ => exact e
    split at e
    · rename_i es ei
      obtain ⟨p, vs, rfl, hq, l, rs⟩ := items_lst hT sr r1 ei
      split at e
      · rename_i bs eb
        obtain ⟨ev, el⟩ := allBl_rep rs eb
        cases e
        exact cr_any hc pins s σ H _ us Q I rv ⟨p, bs, rfl, by rw [ev] at hq; exact hq, q _ _ _ .refl sr (by simp only [Rep])⟩
      · cases e
    · cases e

/-! ### isinstance -/
def tyN : Ty → String
  | .non => "NoneType" | .bool => "bool" | .int => "int" | .str => "str" | .tuple => "tuple" | .list => "list" | .dict => "dict"
theorem kit_D (K : KW) (T t : Ty) (ht : t ≠ .non) : PySem.W.kitOne K (.type (tyN T)) (.type (tyN t)) = some (subTy T t) := by
  cases t <;> first | exact absurd rfl ht | (cases T <;> exact kit_ty (by decide +kernel))
theorem tyX_rep {K : KW} {al : Nat → Addr} {U : List Addr} {S : Store} {H : Hp} {a : D} {x : V} {T : Ty} (sr : SR K al U S H) (r : Rep K al S.length U H a x) (e : tyD S a = some T) : TyX K H x (.type (tyN T)) := by
  cases a with
  | non => cases e; simp only [Rep] at r; subst r; exact .base .non
  | bl b => cases e; simp only [Rep] at r; subst r; exact .base (.bl b)
  | int b => cases e; simp only [Rep] at r; subst r; exact .base (.int b)
  | fn _ => cases e
  | exc _ => cases e
  | str b => cases e; simp only [Rep] at r; rw [r.1]; exact .base (.str _)
  | tup ds =>
    cases e
    simp only [Rep] at r
    obtain ⟨p, vs, rfl, t, l, rs⟩ := r
    rcases t with ⟨⟨o, h, _⟩, _⟩ | ⟨o, its, n, h, hc, _⟩
    · exact .fTuple h
    · exact .kTuple h hc
  | lst ds =>
    cases e
    simp only [Rep] at r
    obtain ⟨p, vs, rfl, t, l, rs⟩ := r
    rcases t with ⟨h | ⟨o, h⟩, _⟩ | ⟨o, its, n, h, hc, _⟩
    · exact .base (.lst h)
    · exact .base (.frz h)
    · exact .kList h hc
  | ref m =>
    simp only [Rep] at r
    obtain ⟨hm, rfl⟩ := r
    simp only [tyD] at e
    split at e
    · rename_i es eo
      cases e
      obtain ⟨vs, h1, _⟩ := sr.obj m _ eo
      exact .base (.lst h1)
    · rename_i ks vs eo
      cases e
      obtain ⟨kvs, h1, _⟩ := sr.obj m _ eo
      exact .base (.dK h1)
    · cases e
    · cases e
/-- isinstance(x, T), T a built-in type -/
theorem bt_isTy (t : Ty) (ht : t ≠ .non) (m : Bool) : CallR X (.builtin "isinstance") (fun xs H Q => ∃ x, xs = [x, .ty (tyN t)] ∧ rC X.kw (bltD m (.isTy t)) [x] H Q) := by
  intro pins s σ H xs us Q I rv ⟨x, ex, al, U, S, ds, d, S', sr, rs, e, q⟩
  subst ex
  match ds, rs, e with
  | [], rs, _ => simp [Reps] at rs
  | _ :: _ :: _, rs, _ =>
    simp only [Reps] at rs
    obtain ⟨v, r, e1, _, v2, r2, e2, _⟩ := rs
    subst e2
    cases e1
  | [a], rs, e =>
    simp only [Reps] at rs
    obtain ⟨v, r, ev, r1, rfl⟩ := rs
    cases ev
    simp only [bltD] at e
    split at e
    · rename_i T eT
      cases e
      exact call_isi pins s σ H _ us Q I rv ⟨x, .ty (tyN t), _, _, _, rfl, .ty _, tyX_rep sr r1 eT, kit_D X.kw T t ht, q _ _ _ .refl sr (by simp only [Rep])⟩
    · cases e

/-! ### methods -/
def rM (K : KW) (g : D → List D → Store → R (D × Store)) : V → List V → Hp → VK → Prop := fun x xs H Q => ∃ al U S a ds d S',
  SR K al U S H ∧ Rep K al S.length U H a x ∧ Reps K al S.length U H ds xs ∧ g a ds S = .ok (d, S') ∧
  ∀ v H' al', Nxt al S.length H al' S'.length H' → SR K al' U S' H' → Rep K al' S'.length U H' d v → Q v H'
theorem mt_app : MtR X "list.append" (rM X.kw (mthD .append)) := by
  intro pins s σ H x xs v us Q I rx rs ⟨al, U, S, a, ds, d, S', sr, ra, rds, e, q⟩
  have e : appD a ds S = .ok (d, S') := e
  unfold appD at e
  split at e
  · rename_i n y _
    split at e
    · rename_i es eo
      split at e
      · rename_i hl
        cases e
        simp only [Rep] at ra
        obtain ⟨hm, rfl⟩ := ra
        simp only [Reps] at rds
        obtain ⟨w, r, rfl, rw', rfl⟩ := rds
        obtain ⟨vs, h1, l, rvs⟩ := sr.obj n _ eo
        obtain ⟨n1, s1⟩ := sr.put hm (ho := .lst (vs ++ [w])) (o := .lst (es ++ [y])) fun g => ⟨_, upd_same, by rw [List.length_append]; exact hl, (Reps.nxt g _ _ rvs).append (by simp only [Reps]; exact ⟨_, _, rfl, Rep.nxt g _ _ rw', rfl⟩)⟩
        exact mt_append pins s σ H _ _ v us Q I rx rs ⟨_, vs, w, rfl, rfl, h1, by rw [← rvs.length]; exact hl, q _ _ _ n1 s1 (by simp only [Rep])⟩
      · cases e
    · cases e
  · cases e
theorem join_toS (sp : List Char) : ∀ ss : List (List Char), Txt.join (toS sp) (ss.map toS) = toS (joinS sp ss)
  | ss => by
    have : ∀ ss : List (List Char), Str.join (toS sp) (ss.map toS) = toS (joinS sp ss) := by
      intro ss
      induction ss with
      | nil => rfl
      | cons x r ih =>
        cases r with
        | nil => rfl
        | cons y r =>
          show toS x ++ toS sp ++ Str.join (toS sp) ((y :: r).map toS) = toS (x ++ sp ++ joinS sp (y :: r))
          rw [ih, toS_app, toS_app]
    exact (PySem.StrLaws.glued_eq_join _ _).trans (this ss)
theorem joinS_le (sp : List Char) : ∀ ss : List (List Char), (joinS sp ss).length ≤ (ss.map List.length).sum + ss.length * sp.length
  | [] => by simp [joinS]
  | [x] => by simp [joinS]
  | x :: y :: r => by
    have ih := joinS_le sp (y :: r)
    simp only [joinS, List.length_append, List.map_cons, List.sum_cons, List.length_cons] at ih ⊢
    have : (r.length + 1 + 1) * sp.length = (r.length + 1) * sp.length + sp.length := Nat.succ_mul _ _
    omega
theorem mt_joi : MtR X "str.join" (rM X.kw (mthD .join)) := by
  intro pins s σ H x xs v us Q I rx rs ⟨al, U, S, a, ds, d, S', sr, ra, rds, e, q⟩
  have e : joiD a ds S = .ok (d, S') := e
  unfold joiD at e
  split at e
  · rename_i sp y
    split at e
    · rename_i es eo
      split at e
      · rename_i ss es'
        split at e
        · rename_i hl
          cases e
          simp only [Reps] at rds
          obtain ⟨w, r, rfl, rw', rfl⟩ := rds
          obtain ⟨p, vs, rfl, hq, l, rvs⟩ := items_rep sr rw' eo
          obtain ⟨ev, el, hl2⟩ := allStr_rep rvs es'
          simp only [Rep] at ra
          refine mt_join pins s σ H _ _ v us Q I rx rs ⟨_, p, ss.map toS, ra.1, rfl, by rw [List.map_map]; rw [ev] at hq; exact hq, ?_, ?_⟩
          · rw [List.map_map, List.length_map, toS_length]
            have : (Str.length ∘ toS) = List.length := by funext z; exact toS_length z
            rw [show ((fun x => x.length) ∘ toS) = List.length from this]
            exact hl
          · rw [join_toS]
            refine q _ _ _ .refl sr ?_
            simp only [Rep]
            refine ⟨trivial, Nat.le_trans (joinS_le _ _) ?_⟩
            have : sizeLine = 16777216 := by decide
            omega
        · cases e
      · cases e
    · cases e
  · cases e
end
end Z

set_option Elab.async false
set_option linter.all false
set_option maxRecDepth 100000
set_option maxHeartbeats 4000000
/-! Ev4: stores, targets, what is walked. -/
namespace Z
open PySem L2 PySem.Spec PyProof.Rows

def tSubD (K : KW) : TSet := fun o i v H Q => ∃ al U S a b d S',
  SR K al U S H ∧ Rep K al S.length U H a o ∧ Rep K al S.length U H b i ∧ Rep K al S.length U H d v ∧ subD a b d S = .ok S' ∧
  ∀ H' al', Nxt al S.length H al' S'.length H' → SR K al' U S' H' → Q H'
section
variable {K : KW} {al : Nat → Addr} {n : Nat} {U : List Addr} {H : Hp}
theorem putV_rep {a d : D} {k : Key} {v : V} (ha : keyOk a = true) (ek : keyD a = some k) (rd : Rep K al n U H d v) : ∀ {ks vs : List D} {kvs : List (Key × V)}, ks.all keyOk = true → ks.map keyD = kvs.map (fun p => some p.1) → Reps K al n U H vs (kvs.map (·.2)) →
    Reps K al n U H (putV a d ks vs) ((kvs.map fun kv => if kv.1 = k then (kv.1, v) else kv).map (·.2))
  | [], vs, [], _, _, r => by
    simp only [List.map_nil] at r ⊢
    unfold putV
    exact r
  | [], vs, p :: kvs, _, e, _ => by simp at e
  | c :: ks, vs, [], _, e, _ => by simp at e
  | c :: ks, vs, p :: kvs, hk, e, rs => by
    rw [List.all_cons, Bool.and_eq_true] at hk
    simp only [List.map_cons, List.cons.injEq] at e
    cases vs with
    | nil => simp only [Reps] at rs; cases rs
    | cons w ws =>
      simp only [List.map_cons, Reps] at rs
      obtain ⟨v', r, e2, r1, r2⟩ := rs
      simp only [List.cons.injEq] at e2
      have q : eqD c a = decide (p.1 = k) := by
        rw [keyOk_eq hk.1 ha, ek, e.1]
        simp
      have ih := putV_rep ha ek rd hk.2 e.2 (by rw [e2.2]; exact r2)
      simp only [putV, List.map_cons, Reps, q]
      by_cases hp : p.1 = k
      · rw [if_pos hp, decide_eq_true hp, if_pos rfl]
        exact ⟨_, _, rfl, rd, ih⟩
      · rw [if_neg hp, decide_eq_false hp, if_neg Bool.false_ne_true]
        exact ⟨_, _, rfl, by rw [e2.1]; exact r1, ih⟩
end
/-- how a dict's entries stand -/
def DRep (K : KW) (al : Nat → Addr) (n : Nat) (U : List Addr) (H : Hp) (ks ws : List D) (kvs : List (Key × V)) : Prop :=
  ks.length ≤ sizeLine ∧ ks.map keyD = kvs.map (fun p => some p.1) ∧ Reps K al n U H ws (kvs.map (·.2)) ∧ (kvs.map (·.1)).Nodup ∧ ∀ s, D.str s ∈ ks → s.length ≤ sizeLine
section
variable {K : KW} {al : Nat → Addr} {n : Nat} {U : List Addr} {H : Hp}
theorem DRep.put {ks ws : List D} {kvs : List (Key × V)} {b d : D} {k : Key} {v w : V} (h : DRep K al n U H ks ws kvs) (hk : ks.all keyOk = true) (hb : keyOk b = true) (ek : keyD b = some k) (rb : Rep K al n U H b w) (rd : Rep K al n U H d v) (hl : ks.length < sizeLine) :
    DRep K al n U H (putK ks ws b d).1 (putK ks ws b d).2 (L2.putK kvs k v) ∧ (putK ks ws b d).1.all keyOk = true := by
  obtain ⟨l, r1, r2, r3, r4⟩ := h
  obtain ⟨f1, _⟩ := findK_val hb ek hk r1 r2
  have hany : (kvs.any fun kv => decide (kv.1 = k)) = inD b ks := by rw [valV_any, f1]
  unfold DRep Z.putK L2.putK
  rw [hany]
  cases hi : inD b ks with
  | true =>
    simp only [if_true]
    have e1 : ((fun x : Key × V => x.1) ∘ fun kv : Key × V => if kv.1 = k then (kv.1, v) else kv) = fun x => x.1 := by
      funext p
      simp only [Function.comp]
      split <;> rfl
    refine ⟨⟨l, ?_, putV_rep hb ek rd hk r1 r2, ?_, r4⟩, hk⟩
    · rw [r1, List.map_map]
      apply List.map_congr_left
      intro p _
      simp only [Function.comp]
      split <;> rfl
    · rw [List.map_map, e1]
      exact r3
  | false =>
    simp only [Bool.false_eq_true, if_false]
    refine ⟨⟨by simp only [List.length_append, List.length_singleton]; exact hl, ?_, ?_, ?_, ?_⟩, ?_⟩
    · rw [List.map_append, List.map_append, r1]
      simp [ek]
    · rw [List.map_append]
      refine r2.append ?_
      simp only [List.map_cons, List.map_nil, Reps]
      exact ⟨_, _, rfl, rd, rfl⟩
    · rw [List.map_append]
      refine List.nodup_append.mpr ⟨r3, by simp, ?_⟩
      intro x hx y hy
      simp at hy
      subst hy
      intro exy
      subst exy
      rw [hi] at hany
      obtain ⟨p, hp, rfl⟩ := List.mem_map.mp hx
      have := List.any_eq_false.mp hany p hp
      simp at this
    · intro s hs
      rcases List.mem_append.mp hs with hs | hs
      · exact r4 s hs
      · simp at hs
        subst hs
        simp only [Rep] at rb
        exact rb.2
    · rw [List.all_append, hk]
      simp [hb]
theorem dictD_rep : ∀ {ds : List D} {vs : List V} {ks ws : List D} {kvs : List (Key × V)} {p : List D × List D}, Reps K al n U H ds vs → dictD ds ks ws = some p → ks.all keyOk = true → DRep K al n U H ks ws kvs →
    ∃ (ps : List Addr) (more : List (Key × V)), vs = ps.map V.ref ∧ Paired (fun p kv => SqT K H p [kV kv.1, kv.2]) ps more ∧ DRep K al n U H p.1 p.2 (mergeK kvs more)
  | [], vs, ks, ws, kvs, p, r, e, hk, h => by
    simp only [Reps] at r
    cases e
    exact ⟨[], [], r, .nil, h⟩
  | d :: ds, vs, ks, ws, kvs, p, r, e, hk, h => by
    simp only [Reps] at r
    obtain ⟨v, vr, rfl, r1, r2⟩ := r
    unfold dictD at e
    split at e
    · rename_i h0; cases h0
    · rename_i b d2 ds' _ _ h0
      cases h0
      split at e
      · rename_i hc
        simp only [Rep, Reps] at r1
        obtain ⟨a, us, rfl, t, _, x, _, rfl, rx, y, _, rfl, ry, rfl⟩ := r1
        obtain ⟨k, ek, ex⟩ := keyOk_rep rx hc.1
        subst ex
        obtain ⟨h2, hk2⟩ := h.put hk hc.1 ek rx ry hc.2
        obtain ⟨ps, more, e1, e2, e3⟩ := dictD_rep r2 e hk2 h2
        exact ⟨a :: ps, (k, y) :: more, by rw [e1]; rfl, .cons t.sq e2, e3⟩
      · cases e
    · cases e
end
section
variable {X : Cx}
/-- a tuple's own object, without a dict -/
def TupP (K : KW) (H : Hp) (a : Addr) (xs : List V) : Prop := TupR H a xs ∨
  ∃ (o : Obj) (its : Array Value) (n : Nat), K.lookup a = some o ∧ o.cls = .type "tuple" ∧ o.dict = none ∧ o.data = .seq its n ∧ its.size ≤ sizeLine ∧ Vals xs its.toList
theorem TupAt.plain {K : KW} {al : Nat → Addr} {n : Nat} {U : List Addr} {H : Hp} {a : Addr} {xs : List V} (h : TupAt K al n U H a xs) : TupP K H a xs := h.imp (·.1) id
theorem plain_seq {pins : List (Addr × Obj)} {σ : L2.St} {H : Hp} {s : Shared} {a : Addr} {xs : List V} (I : Inv X pins σ H s) (h : TupP X.kw H a xs) : ∃ its : List Value, Vals xs its ∧ PySem.PlainSeq "tuple" s.heap a its.toArray ∧ xs.length ≤ sizeLine := by
  rcases h with ⟨o, e, hd⟩ | ⟨o, its, n, e, hc, hd, hs, hz, r⟩
  · obtain ⟨h1, z, its, r, o2, h2, hc, n, hs⟩ := I.hok a _ e
    rw [h1] at h2
    cases h2
    exact ⟨its, r, ⟨o, n, h1, hc, hd, hs⟩, z⟩
  · refine ⟨its.toList, r, ⟨o, n, I.kIn a o e, hc, hd, by simpa using hs⟩, ?_⟩
    rw [r.length, Array.length_toList]
    exact hz
theorem pairs_at {pins : List (Addr × Obj)} {σ : L2.St} {H : Hp} {s : Shared} (I : Inv X pins σ H s) : ∀ {ps : List Addr} {kvs : List (Key × V)}, Paired (fun p kv => SqT X.kw H p [kV kv.1, kv.2]) ps kvs →
    ∃ (pvs : List (Value × Value)) (prs : List (Key × Value)), KV kvs prs ∧ pvs.length = ps.length ∧ prs.length = ps.length ∧
      ∀ (j : Nat) (u v : Value), pvs[j]? = some (u, v) → ∃ (b : Addr) (k : Key), ps[j]? = some b ∧ prs[j]? = some (k, v) ∧ PySem.PairAt s.heap b u v ∧ (mixKind X.prog X.w).is k u = true
  | _, _, .nil => ⟨[], [], .nil, rfl, rfl, fun j u v e => by simp at e⟩
  | _, _, .cons (a := p) (b := kv) h t => by
    obtain ⟨pvs, prs, r, l1, l2, hp⟩ := pairs_at I t
    obtain ⟨its, rv, ht, _⟩ := I.tuple h
    obtain ⟨u, y, ei, ru, ry⟩ := vals2 rv
    subst ei
    refine ⟨(u, y) :: pvs, (kv.1, y) :: prs, .cons ⟨rfl, ry⟩ r, by simp [l1], by simp [l2], fun j u' v' e => ?_⟩
    cases j with
    | zero =>
      have e' : (u, y) = (u', v') := Option.some.inj e
      cases e'
      exact ⟨p, kv.1, rfl, rfl, .inl ht, kV_is (P := X.prog) (w := X.w) ru⟩
    | succ j => exact hp j u' v' (by simpa using e)
/-- dict(t) of a tuple of pairs -/
theorem call_dictT (hcalm : X.calm = true) : CallR X (.type "dict") (fun xs H Q => ∃ (a : Addr) (ps : List Addr) (kvs : List (Key × V)), xs = [.ref a] ∧ TupP X.kw H a (ps.map V.ref) ∧ Paired (fun p kv => SqT X.kw H p [kV kv.1, kv.2]) ps kvs ∧
    ∀ p, H p = none → Q (.ref p) (upd H p (.dK (mergeK [] kvs)))) := by
  intro pins s σ H xs us Q I r ⟨a, ps, kvs, ex, hq, hp, q⟩
  subst ex
  obtain ⟨u, eu, rx⟩ := vals1 r
  subst eu
  cases rx
  obtain ⟨its, rv, pl, hz⟩ := plain_seq I hq
  have ei := refs_at rv
  subst ei
  rw [List.length_map] at hz
  obtain ⟨pvs, prs, rel, l1, l2, hpr⟩ := pairs_at I hp
  refine PySem.call_dict_pairs (knd := mixKind X.prog X.w) (kvs := prs) (PySem.PairArg.tuple a (ps.map Value.ref).toArray (fun j => ps.getD j 0) pvs) (I.ok.hd hcalm) ⟨pl, by simp [l1], fun j u v e => ?_⟩ ⟨by rw [l2, l1], fun i key v e => ?_⟩ (by rw [l1]; exact hz) fun h' tk hd' k => ?_
  · obtain ⟨b, kk, e1, e2, e3, e4⟩ := hpr j u v e
    have : ps.getD j 0 = b := by rw [List.getD_eq_getElem?_getD, e1]; rfl
    refine ⟨?_, ?_⟩
    · show _ = some (Value.ref (ps.getD j 0))
      rw [this]; simp [e1]
    · show PySem.PairAt s.heap (ps.getD j 0) u v
      rw [this]; exact e3
  · obtain ⟨b, kk, e1, e2, e3, e4⟩ := hpr i key v e
    exact ⟨kk, e2, e4⟩
  · have hm : (s.heap.objs.size == sysModules) = false := beq_eq_false_iff_ne.mpr (Nat.ne_of_gt I.big)
    have hlen : (mergeK [] kvs).length ≤ sizeLine := by
      refine Nat.le_trans (length_mergeK kvs []) ?_
      rw [List.length_nil, Nat.zero_add, rel.length, l2]
      exact hz
    exact ⟨.ref s.heap.objs.size, upd H s.heap.objs.size (.dK (mergeK [] kvs)), I.laid (t' := tk) (fun b o e => k b o (fun z => nomatch z) e) (Nat.le_refl _) (show ObjOk X.prog X.w _ _ _ (.dK (mergeK [] kvs)) from ⟨hlen, hm, merged [] prs, KV.merge rel .nil, hd'⟩), rfl, q _ (I.hok.fresh (Nat.le_refl _))⟩
theorem dictN_cons {d : D} {ds ks vs : List D} {p : List D × List D} (e : dictN (d :: ds) ks vs = some p) : ∃ k v kk, d = .tup [k, v] ∧ keyN k = some kk ∧ ks.length < sizeLine ∧ dictN ds (putN ks vs k kk v).1 (putN ks vs k kk v).2 = some p := by
  match d, e with
  | .tup [k, v], e =>
    simp only [dictN] at e
    cases hk : keyN k with
    | none => rw [hk] at e; cases e
    | some kk =>
      rw [hk] at e
      simp only at e
      by_cases hl : ks.length < sizeLine
      · rw [if_pos hl] at e
        exact ⟨k, v, kk, rfl, hk, hl, e⟩
      · rw [if_neg hl] at e
        cases e
  | .tup [], e => simp [dictN] at e
  | .tup [_], e => simp [dictN] at e
  | .tup (_ :: _ :: _ :: _), e => simp [dictN] at e
  | .non, e => simp [dictN] at e
  | .bl _, e => simp [dictN] at e
  | .int _, e => simp [dictN] at e
  | .str _, e => simp [dictN] at e
  | .lst _, e => simp [dictN] at e
  | .ref _, e => simp [dictN] at e
theorem dictN_rep {pins : List (Addr × Obj)} {σ : L2.St} {H : Hp} {s : Shared} {al : Nat → Addr} {n : Nat} {U : List Addr} (I : Inv X pins σ H s) {a : Addr} : ∀ {ds : List D} {ws : List V} {ks vs : List D} {bs us : List V} {xs : List (NestedKey × Addr × Value)} {p : List D × List D},
    Reps X.kw al n U H ds ws → NdOk a ks bs us xs → Reps X.kw al n U H ks bs → Reps X.kw al n U H vs us → dictN ds ks vs = some p →
    ∃ (ts : List Addr) (ps : List (NestedKey × Addr × Value)) (bs' us' : List V), ws = ts.map V.ref ∧ ps.length = ts.length ∧ (∀ (j : Nat) (q : NestedKey × Addr × Value), ps[j]? = some q → ∃ t, ts[j]? = some t ∧ s.heap.IsTuple t #[.ref q.2.1, q.2.2]) ∧
      (∀ q ∈ ps, (nestedKind X.prog X.w).is s.heap q.1 q.2.1) ∧ NdOk a p.1 bs' us' (storedAllH xs ps) ∧ Reps X.kw al n U H p.1 bs' ∧ Reps X.kw al n U H p.2 us'
  | [], ws, ks, vs, bs, us, xs, p, r, N, r1, r2, e => by
    simp only [Reps] at r
    subst r
    simp only [dictN, Option.some.injEq] at e
    subst e
    exact ⟨[], [], bs, us, rfl, rfl, fun j q h => by simp at h, fun q h => (nomatch h), N, r1, r2⟩
  | d :: ds, ws, ks, vs, bs, us, xs, p, r, N, r1, r2, e => by
    obtain ⟨k, v, kk, rfl, ek, hl, e⟩ := dictN_cons e
    simp only [Reps, Rep] at r
    obtain ⟨w, r', rfl, ⟨t, vs2, rfl, tt, tl, ⟨kv, _, e2, rk, vv, _, e3, rv, e4⟩⟩, rr⟩ := r
    subst e4
    subst e3
    subst e2
    obtain ⟨its, rits, hT, _⟩ := I.tuple tt.sq
    obtain ⟨u1, u2, ei, h1, h2⟩ := vals2 rits
    subst ei
    obtain ⟨b, ekv, eu, hk⟩ := keyN_is I rk h1 ek
    subst ekv
    subst eu
    obtain ⟨bs1, us1, N1, q1, q2⟩ := putN_ok (vs := vs) N r1 r2 hl ek rk rv h2
    obtain ⟨ts, ps, bs2, us2, g1, g2, g3, g4, g5, g6, g7⟩ := dictN_rep I rr N1 q1 q2 e
    refine ⟨t :: ts, (kk, b, u2) :: ps, bs2, us2, by rw [g1]; rfl, by simp [g2], fun j q h => ?_, fun q h => ?_, g5, g6, g7⟩
    · cases j with
      | zero =>
        have h' : (kk, b, u2) = q := Option.some.inj h
        subst h'
        exact ⟨t, rfl, hT⟩
      | succ j => exact g3 j q (by simpa using h)
    · rcases List.mem_cons.mp h with rfl | h
      · exact hk
      · exact g4 q h
/-- dict(xs) of a list of pairs, the keys tuples -/
theorem bt_dictN (hc : X.calm = true) (hu : X.A.units + 64 < cLine) (m : Bool) : CallR X (.type "dict") (rC X.kw (bltD m .dictN)) := by
  intro pins s σ H xs us Q I rv ⟨al, U, S, ds, d, S', sr, rs, e, q⟩
  have ee : dicND ds S = .ok (d, S') := e
  unfold dicND at ee
  split at ee <;> try (cases ee; done)
  rename_i es
  split at ee
  · rename_i p ep
    cases ee
    simp only [Reps, Rep] at rs
    obtain ⟨v, _, rfl, ⟨a, vs, rfl, t, l, r⟩, rfl⟩ := rs
    obtain ⟨u, eu, rx⟩ := vals1 rv
    subst eu
    cases rx
    have hn := I.hok.fresh (Nat.le_refl s.heap.objs.size)
    have hs : (s.heap.objs.size == sysModules) = false := beq_eq_false_iff_ne.mpr (Ne.symm (Nat.ne_of_lt I.big))
    obtain ⟨ts, ps, bs', us', g1, g2, g3, g4, g5, g6, g7⟩ := dictN_rep (a := s.heap.objs.size) (ks := []) (vs := []) (bs := []) (us := []) (xs := []) I r ⟨hs, Nat.zero_le _, List.nodup_nil, rfl, rfl, .nil⟩ (by simp [Reps]) (by simp [Reps]) ep
    subst g1
    obtain ⟨its, rits, pl, hz⟩ := I.list t.sq
    have ei := refs_at rits
    subst ei
    rw [List.length_map] at hz
    refine PySem.call_dict_pairsH (knd := nestedKind X.prog X.w) (ps := ps) (PySem.PairArg.list a (ts.map Value.ref).toArray (fun j => ts.getD j 0) (ps.map fun q => (Value.ref q.2.1, q.2.2))) (I.ok.hd hc) (by show X.A.units + 1 + 1 + 8 < cLine; omega) ⟨pl, by simp [g2], fun j k v e => ?_⟩ ⟨by simp, fun i key v e => ?_⟩ (fun h' hk x hx => ?_) (by rw [List.length_map, g2]; exact hz) fun h' tk hd' k => ?_
    · rw [List.getElem?_map] at e
      obtain ⟨q', eq, e2⟩ := Option.map_eq_some_iff.mp e
      obtain ⟨t', et, hT⟩ := g3 j q' eq
      have ed : ts.getD j 0 = t' := by rw [List.getD_eq_getElem?_getD, et]; rfl
      cases e2
      refine ⟨?_, ?_⟩
      · show _ = some (Value.ref (ts.getD j 0))
        rw [ed]; simp [et]
      · show PySem.PairAt s.heap (ts.getD j 0) _ _
        rw [ed]; exact .inl hT
    · have e : (ps.map fun q => (Value.ref q.2.1, q.2.2))[i]? = some (key, v) := e
      rw [List.getElem?_map] at e
      obtain ⟨⟨k0, b0, u0⟩, eq, e2⟩ := Option.map_eq_some_iff.mp e
      cases e2
      exact ⟨k0, b0, eq, rfl⟩
    · exact ⟨NestedIs.at (fun b ob vs n hb _ => hk b ob (Nat.ne_of_lt (Heap.lt_size hb)) (fun z => nomatch z) hb) _ _ (g4 x hx).1, (g4 x hx).2⟩
    · obtain ⟨o', es', ep', f1, f2, f3, f4, _, _⟩ := hd'
      obtain ⟨n1, s1, e4⟩ := sr.make (ho := .ext (ndP X.w s.heap.objs.size (storedAllH [] ps))) (o := .dcn p.1 p.2) hn fun g => ⟨_, bs', us', upd_same, g5, Reps.nxt g _ _ g6, Reps.nxt g _ _ g7⟩
      refine ⟨.ref s.heap.objs.size, _, I.laid (t' := tk) (o := .ext (ndP X.w s.heap.objs.size (storedAllH [] ps))) (fun b o e => k b o (fun z => nomatch z) e) (Nat.le_refl _) (nd_ok ⟨o', es', ep', f1, f2, f3, f4⟩), rfl, q _ _ _ n1 s1 ?_⟩
      simp only [Rep]
      exact ⟨by simp, by rw [e4]⟩
  · cases ee
theorem bt_int (m : Bool) : CallR X (.type "int") (rC X.kw (bltD m .int)) := by
  intro pins s σ H xs us Q I rv ⟨al, U, S, ds, d, S', sr, rs, e, q⟩
  match ds, rs, e with
  | [.bl b], rs, e =>
    cases e
    simp only [Reps, Rep] at rs
    obtain ⟨v, _, rfl, rfl, rfl⟩ := rs
    exact call_int1 pins s σ H _ us Q I rv (.inr ⟨b, rfl, q _ _ _ .refl sr (by simp only [Rep])⟩)
  | [], _, e => cases e
  | [.non], _, e => cases e
  | [.int _], _, e => cases e
  | [.str _], _, e => cases e
  | [.tup _], _, e => cases e
  | [.lst _], _, e => cases e
  | [.ref _], _, e => cases e
  | _ :: _ :: _, _, e => simp [bltD] at e
theorem bt_dict (hc : X.calm = true) (m : Bool) : CallR X (.type "dict") (rC X.kw (bltD m .dict)) := by
  intro pins s σ H xs us Q I rv ⟨al, U, S, ds, d, S', sr, rs, e, q⟩
  have ee : dicD ds S = .ok (d, S') := e
  unfold dicD at ee
  split at ee <;> try (cases ee; done)
  rotate_left
  · rename_i es
    split at ee
    · rename_i p ep
      cases ee
      simp only [Reps, Rep] at rs
      obtain ⟨v, _, rfl, ⟨a, vs, rfl, t, l, r⟩, rfl⟩ := rs
      obtain ⟨ps, more, e1, e2, e3⟩ := dictD_rep (ks := []) (ws := []) (kvs := []) r ep rfl ⟨Nat.zero_le _, rfl, by simp [Reps], List.nodup_nil, fun _ h => nomatch h⟩
      refine call_dictP hc pins s σ H _ us Q I rv ⟨a, ps, more, rfl, by rw [← e1]; exact t.sq, e2, fun p' hp' => ?_⟩
      obtain ⟨n1, s1, e4⟩ := sr.make (ho := .dK (mergeK [] more)) (o := .dct p.1 p.2) hp' fun g => ⟨mergeK [] more, upd_same, e3.1, e3.2.1, Reps.nxt g _ _ e3.2.2.1, e3.2.2.2⟩
      refine q _ _ _ n1 s1 ?_
      simp only [Rep]
      exact ⟨by simp, by rw [e4]⟩
    · cases ee
  rename_i es
  split at ee
  · rename_i p ep
    cases ee
    simp only [Reps, Rep] at rs
    obtain ⟨v, _, rfl, ⟨a, vs, rfl, t, l, r⟩, rfl⟩ := rs
    obtain ⟨ps, more, e1, e2, e3⟩ := dictD_rep (ks := []) (ws := []) (kvs := []) r ep rfl ⟨Nat.zero_le _, rfl, by simp [Reps], List.nodup_nil, fun _ h => nomatch h⟩
    refine call_dictT hc pins s σ H _ us Q I rv ⟨a, ps, more, rfl, by rw [← e1]; exact t.plain, e2, fun p' hp' => ?_⟩
    obtain ⟨n1, s1, e4⟩ := sr.make (ho := .dK (mergeK [] more)) (o := .dct p.1 p.2) hp' fun g => ⟨mergeK [] more, upd_same, e3.1, e3.2.1, Reps.nxt g _ _ e3.2.2.1, e3.2.2.2⟩
    refine q _ _ _ n1 s1 ?_
    simp only [Rep]
    exact ⟨by simp, by rw [e4]⟩
  · cases ee
theorem idx_at {A : Type} [BEq A] [LawfulBEq A] (a : A) : ∀ l : List A, a ∈ l → l[l.idxOf a]? = some a
  | [], h => nomatch h
  | x :: l, h => by
    rw [List.idxOf_cons]
    cases hx : x == a with
    | true => simp [eq_of_beq hx]
    | false =>
      have hn : a ≠ x := fun z => by subst z; rw [beq_self_eq_true] at hx; cases hx
      have := idx_at a l ((List.mem_cons.mp h).resolve_left hn)
      simpa using this
theorem idx_lt {A : Type} [BEq A] [LawfulBEq A] (a : A) : ∀ (l : List A) (m : Nat), m < l.idxOf a → l[m]? ≠ some a
  | [], m, h => by simp
  | x :: l, m, h => by
    rw [List.idxOf_cons] at h
    cases hx : x == a with
    | true => rw [hx] at h; simp at h
    | false =>
      rw [hx] at h
      have hn : x ≠ a := fun z => by subst z; rw [beq_self_eq_true] at hx; cases hx
      cases m with
      | zero => simpa using hn
      | succ m =>
        have h' : m + 1 < l.idxOf a + 1 := h
        simpa using idx_lt a l m (by omega)
theorem at_sign (z : List Char) (c : Char) (i : Nat) : PySem.StrLaws.At (toS z) (toS [c]) (toS z).length i ↔ z[i]? = some c := by
  unfold PySem.StrLaws.At Builtin.Str.subAt
  have h1 : (toS [c]).length = 1 := rfl
  have h2 : (toS z).length = z.length := toS_length z
  have h3 : (toS z).cps = (z.map Char.toNat).toArray := rfl
  have h4 : (toS [c]).cps = #[c.toNat] := rfl
  rw [h1, h2, h3, h4]
  constructor
  · rintro ⟨g, e⟩
    have hi : i < z.length := by omega
    have e' := congrArg Array.toList (beq_iff_eq.mp e)
    simp only [Array.toList_extract, List.toList_toArray] at e'
    rw [List.getElem?_eq_getElem hi]
    have e2 : ((List.map Char.toNat z).drop i).take 1 = [c.toNat] := by
      have : ((List.map Char.toNat z).extract i (i + 1)) = ((List.map Char.toNat z).drop i).take 1 := by
        simp [List.extract_eq_drop_take]
      rw [← this]
      exact e'
    rw [← List.map_drop, List.drop_eq_getElem_cons hi, List.map_cons, List.take_succ_cons, List.take_zero, List.cons.injEq] at e2
    rw [Char.toNat_inj.mp e2.1]
  · intro e
    obtain ⟨hi, e1⟩ := List.getElem?_eq_some_iff.mp e
    refine ⟨by omega, beq_iff_eq.mpr ?_⟩
    apply Array.toList_inj.mp
    simp only [Array.toList_extract, List.toList_toArray]
    rw [List.extract_eq_drop_take, ← List.map_drop, List.drop_eq_getElem_cons hi, e1]
    simp
/-- text.index(sign) -/
theorem mt_idx : MtR X "str.index" (rM X.kw (mthD .index)) := by
  intro pins s σ H x xs v us Q I rx rs ⟨al, U, S, a, ds, d, S', sr, ra, rds, e, q⟩
  have e : idxD a ds S = .ok (d, S') := e
  unfold idxD at e
  split at e <;> try (cases e; done)
  rename_i z c _
  split at e
  · rename_i hc
    cases e
    simp only [Reps, Rep] at rds ra
    obtain ⟨w, _, rfl, ⟨rfl, _⟩, rfl⟩ := rds
    have hat : ∀ i, PySem.StrLaws.At (toS z) (toS [c]) (toS z).length i ↔ z[i]? = some c := at_sign z c
    have hi : Builtin.Str.occurrences (toS z) (toS [c]) 0 (toS z).length 1 = (z.idxOf c) :: (Builtin.Str.occurrences (toS z) (toS [c]) 0 (toS z).length 1).tail := by
      rcases PySem.StrLaws.occ_head (toS z) (toS [c]) 1 (Nat.le_refl _) with ⟨_, h2⟩ | ⟨i, r, h1, h2, h3⟩
      · exact absurd ((hat (z.idxOf c)).mpr (idx_at c z hc)) (h2 _)
      · have e1 := (hat i).mp h2
        have e2 : z.idxOf c = i := by
          rcases Nat.lt_trichotomy (z.idxOf c) i with g | g | g
          · exact absurd ((hat (z.idxOf c)).mpr (idx_at c z hc)) (h3 _ g)
          · exact g
          · exfalso
            exact idx_lt c z i g e1
        rw [h1, e2]
        rfl
    exact mt_sindex pins s σ H x _ v us Q I rx rs ⟨toS z, toS [c], z.idxOf c, _, ra.1, rfl, hi, q _ _ _ .refl sr (by simp only [Rep])⟩
  · cases e
/-- a tuple's .index of a text -/
theorem mt_idxT : MtR X "tuple.index" (rM X.kw (mthD .indexT)) := by
  intro pins s σ H x xs v us Q I rx rs ⟨al, U, S, a, ds, d, S', sr, ra, rds, e, q⟩
  have e : idxTD a ds S = .ok (d, S') := e
  unfold idxTD at e
  split at e <;> try (cases e; done)
  rename_i es z _
  split at e
  · rename_i ss es'
    split at e
    · rename_i hc
      cases e
      simp only [Reps, Rep] at rds ra
      obtain ⟨w, _, rfl, ⟨rfl, _⟩, rfl⟩ := rds
      obtain ⟨p, vs, rfl, t, l, r⟩ := ra
      obtain ⟨e1, e2, e3⟩ := allStr_rep r es'
      have inj : ∀ x y : List Char, toS x = toS y → x = y := fun x y h => by simpa [toS_beq] using (by rw [h]; exact beq_self_eq_true _ : (toS x == toS y) = true)
      refine mt_tup_index pins s σ H _ _ v us Q I rx rs ⟨p, ss.map toS, toS z, ss.idxOf z, rfl, rfl, ?_, ?_, fun m hm hz => ?_, q _ _ _ .refl sr (by simp only [Rep])⟩
      · rw [List.map_map]
        rw [e1] at t
        exact t.sq
      · rw [List.getElem?_map, idx_at z ss hc]
        rfl
      · rw [List.getElem?_map, Option.map_eq_some_iff] at hz
        obtain ⟨y, hy, hy2⟩ := hz
        have hy3 := inj _ _ hy2
        rw [hy3] at hy
        exact idx_lt z ss m hm hy
    · cases e
  · cases e
/-- xs.extend(ys) -/
theorem mt_ext : MtR X "list.extend" (rM X.kw (mthD .extend)) := by
  intro pins s σ H x xs v us Q I rx rs ⟨al, U, S, a, ds, d, S', sr, ra, rds, e, q⟩
  have e : extD a ds S = .ok (d, S') := e
  unfold extD at e
  split at e <;> try (cases e; done)
  rename_i n m _
  split at e <;> try (cases e; done)
  rename_i ds eo
  split at e <;> try (cases e; done)
  rename_i es eo2
  split at e
  · rename_i hl
    cases e
    simp only [Reps, Rep] at ra rds
    obtain ⟨hn, rfl⟩ := ra
    obtain ⟨w, _, rfl, ⟨hm, rfl⟩, rfl⟩ := rds
    obtain ⟨vs, h1, l1, r1⟩ := sr.obj n _ eo
    obtain ⟨ws, h2, l2, r2⟩ := sr.obj m _ eo2
    obtain ⟨n1, s1⟩ := sr.put hn (ho := .lst (vs ++ ws)) (o := .lst (ds ++ es)) fun g => ⟨_, upd_same, by rw [List.length_append]; exact hl, (Reps.nxt g _ _ r1).append (Reps.nxt g _ _ r2)⟩
    exact mt_extend pins s σ H _ _ v us Q I rx rs ⟨_, _, vs, ws, rfl, rfl, h1, h2, by rw [← r1.length, ← r2.length]; exact hl, q _ _ _ n1 s1 (by simp only [Rep])⟩
  · cases e
/-- d.get(k, x) -/
theorem mt_get2 (hu : X.A.units + 64 < cLine) : MtR X "dict.get" (rM X.kw (mthD .get2)) := by
  intro pins s σ H x xs v us Q I rx rs ⟨al, U, S, a, ds, d, S', sr, ra, rds, e, q⟩
  have e : get2D a ds S = .ok (d, S') := e
  unfold get2D at e
  split at e <;> try (cases e; done)
  rename_i n b d0 _
  simp only [Reps] at rds
  obtain ⟨y, _, rfl, ry, z, _, rfl, rz, rfl⟩ := rds
  obtain ⟨u, r, rfl, ru, rr⟩ := vals2 rs
  simp only [Rep] at ra
  obtain ⟨hm, rfl⟩ := ra
  obtain rfl : v = Value.ref (al n) := rx
  split at e <;> try (cases e; done)
  · rename_i ks vs eo
    split at e
    · rename_i hf
      cases e
      obtain ⟨kvs, h1, l, r1, r2, r3, r4⟩ := sr.obj n _ eo
      obtain ⟨k, ek, ex⟩ := keyOk_rep ry hf.1
      obtain ⟨f1, f2⟩ := findK_val hf.1 ek hf.2 r1 r2
      have f3 : findK ks vs b = none → valV kvs k = none := fun h => by
        cases hv : valV kvs k with
        | none => rfl
        | some w =>
          exfalso
          rw [hv] at f1
          have go : ∀ (ks vs : List D) (kvs : List (Key × V)), ks.map keyD = kvs.map (fun p => some p.1) → Reps X.kw al S.length U H vs (kvs.map (·.2)) → inD b ks = true → findK ks vs b ≠ none := by
            intro ks
            induction ks with
            | nil => intro vs kvs _ _ hi; simp [inD] at hi
            | cons c ks ih =>
              intro vs kvs e1 e2 hi
              cases kvs with
              | nil => simp at e1
              | cons p kvs =>
                simp only [List.map_cons, List.cons.injEq] at e1
                cases vs with
                | nil => simp only [List.map_cons, Reps] at e2; cases e2
                | cons w vs =>
                  simp only [List.map_cons, Reps] at e2
                  obtain ⟨_, _, e3, _, e4⟩ := e2
                  simp only [List.cons.injEq] at e3
                  unfold findK
                  cases hq : eqD c b with
                  | true => simp
                  | false =>
                    unfold inD at hi
                    rw [List.any_cons, hq, Bool.false_or] at hi
                    simpa using ih vs kvs e1.2 (by rw [e3.2]; exact e4) hi
          exact go ks vs kvs r1 r2 (by rw [f1]; rfl) h
      refine d_get2 (by omega) I (ex ▸ DGet.k h1) ru rr fun w' s3 I3 rw3 => ?_
      cases hq : findK ks vs b with
      | none =>
        rw [f3 hq] at rw3
        rw [hq] at q
        exact ⟨z, H, I3, rw3, q z H al .refl sr rz⟩
      | some w =>
        obtain ⟨v2, g1, g2⟩ := f2 w hq
        rw [g1] at rw3
        rw [hq] at q
        exact ⟨v2, H, I3, rw3, q v2 H al .refl sr g2⟩
    · cases e
  · rename_i ks vs eo
    split at e
    · rename_i k ek
      cases e
      exact n_get2 hu I ru rr ry rz (sr.obj n _ eo) ek fun w rw' => q w H al .refl sr rw'
    · cases e
/-- d.setdefault(k, x) -/
theorem mt_sdf (hu : X.A.units + 64 < cLine) : MtR X "dict.setdefault" (rM X.kw (mthD .setdef)) := by
  intro pins s σ H x xs v us Q I rx rs ⟨al, U, S, a, ds, d, S', sr, ra, rds, e, q⟩
  replace e : sdfD a ds S = .ok (d, S') := e
  unfold sdfD at e
  split at e <;> try (cases e; done)
  rename_i n b d0
  simp only [Reps] at rds
  obtain ⟨y, _, rfl, ry, z, _, rfl, rz, rfl⟩ := rds
  obtain ⟨u, r, rfl, ru, rr⟩ := vals2 rs
  simp only [Rep] at ra
  obtain ⟨hm, rfl⟩ := ra
  obtain rfl : v = Value.ref (al n) := rx
  split at e <;> try (cases e; done)
  rename_i ks vs eo
  split at e <;> try (cases e; done)
  rename_i k ek
  refine n_setdef hu I sr hm eo ru rr ry rz ek (fun d1 w hf rw' => ?_) fun hf => ?_
  · rw [hf] at e
    cases e
    exact q w H al .refl sr rw'
  · rw [hf] at e
    simp only at e
    split at e
    · rename_i hl
      cases e
      exact ⟨hl, fun H' n1 s1 => q z H' al n1 s1 (Rep.nxt n1 _ _ rz)⟩
    · cases e
/-- xs.index(i), whole numbers -/
theorem mt_idxL : MtR X "list.index" (rM X.kw (mthD .indexL)) := by
  intro pins s σ H x xs v us Q I rx rs ⟨al, U, S, a, ds, d, S', sr, ra, rds, e, q⟩
  replace e : idxLD a ds S = .ok (d, S') := e
  unfold idxLD at e
  split at e <;> try (cases e; done)
  · rename_i i
    split at e <;> try (cases e; done)
    rename_i es el
    split at e <;> try (cases e; done)
    rename_i ns en
    split at e <;> try (cases e; done)
    rename_i hc
    cases e
    simp only [Reps, Rep] at rds
    obtain ⟨w, _, rfl, rfl, rfl⟩ := rds
    obtain ⟨p, vs, rfl, t, l, r⟩ := ls_sq sr ra el
    obtain ⟨e1, e2⟩ := allInt_rep r en
    subst e1
    have fl : (ns.map V.int).all flatV = true := by
      rw [List.all_map, List.all_eq_true]
      intro x _
      rfl
    refine mt_index pins s σ H _ _ v us Q I rx rs ⟨p, ns.map V.int, .int i, ns.idxOf i, .int i, rfl, rfl, t, rfl, fl, ?_, ?_, fun m z hm hz => ?_, q _ _ _ .refl sr (by simp only [Rep])⟩
    · rw [List.getElem?_map, idx_at i ns hc]
      rfl
    · simp [eqV]
    · rw [List.getElem?_map, Option.map_eq_some_iff] at hz
      obtain ⟨j, hj, rfl⟩ := hz
      have hne : j ≠ i := fun h => idx_lt i ns m hm (by rw [hj, h])
      simp [eqV, hne]
  · rename_i i
    split at e <;> try (cases e; done)
    rename_i es el
    split at e <;> try (cases e; done)
    rename_i ns en
    split at e <;> try (cases e; done)
    rename_i hc
    cases e
    simp only [Reps, Rep] at rds
    obtain ⟨w, _, rfl, rfl, rfl⟩ := rds
    obtain ⟨p, vs, rfl, t, l, r⟩ := ls_sq sr ra el
    obtain ⟨e1, e2⟩ := allBl_rep r en
    subst e1
    have fl : (ns.map V.bl).all flatV = true := by
      rw [List.all_map, List.all_eq_true]
      intro x _
      rfl
    refine mt_index pins s σ H _ _ v us Q I rx rs ⟨p, ns.map V.bl, .bl i, ns.idxOf i, .bl i, rfl, rfl, t, rfl, fl, ?_, ?_, fun m z hm hz => ?_, q _ _ _ .refl sr (by simp only [Rep])⟩
    · rw [List.getElem?_map, idx_at i ns hc]
      rfl
    · simp [eqV]
    · rw [List.getElem?_map, Option.map_eq_some_iff] at hz
      obtain ⟨j, hj, rfl⟩ := hz
      have hne : j ≠ i := fun h => idx_lt i ns m hm (by rw [hj, h])
      simp [eqV, hne]
/-- xs.pop(i) -/
theorem mt_popI : MtR X "list.pop" (rM X.kw (mthD .popI)) := by
  intro pins s σ H x xs v us Q I rx rs ⟨al, U, S, a, ds, d, S', sr, ra, rds, e, q⟩
  replace e : popID a ds S = .ok (d, S') := e
  unfold popID at e
  split at e <;> try (cases e; done)
  rename_i n i
  split at e <;> try (cases e; done)
  rename_i es eo
  split at e <;> try (cases e; done)
  rename_i hi
  split at e <;> try (cases e; done)
  rename_i d' hd
  cases e
  simp only [Reps, Rep] at ra rds
  obtain ⟨hn, rfl⟩ := ra
  obtain ⟨w, _, rfl, rfl, rfl⟩ := rds
  obtain ⟨vs, h1, l1, r1⟩ := sr.obj n _ eo
  obtain ⟨y, hy, ry⟩ := r1.get hd
  obtain ⟨n1, s1⟩ := sr.put hn (ho := .lst (vs.eraseIdx i.toNat)) (o := .lst (es.eraseIdx i.toNat)) fun g => ⟨_, upd_same, Nat.le_trans (List.length_eraseIdx_le _ _) l1, (Reps.nxt g _ _ r1).erase _⟩
  have hlt : i.toNat < vs.length := by
    rw [← r1.length]
    exact (List.getElem?_eq_some_iff.mp hd).1
  refine mt_popAt pins s σ H _ _ v us Q I rx rs ⟨_, vs, i, i.toNat, y, rfl, rfl, h1, by omega, by omega, ?_, hy, q _ _ _ n1 s1 (Rep.nxt n1 _ _ ry)⟩
  have hi0 : ¬ i < 0 := by omega
  have hb : (decide (0 ≤ i) && decide (i < (vs.length : Int))) = true := by
    rw [Bool.and_eq_true, decide_eq_true_eq, decide_eq_true_eq]
    omega
  show (if (decide (0 ≤ (if i < 0 then i + (vs.length : Int) else i)) && decide ((if i < 0 then i + (vs.length : Int) else i) < (vs.length : Int))) = true then some (if i < 0 then i + (vs.length : Int) else i).toNat else none) = some i.toNat
  rw [if_neg hi0, if_pos hb]
/-- xs.insert(i, x) -/
theorem mt_ins : MtR X "list.insert" (rM X.kw (mthD .insert)) := by
  intro pins s σ H x xs v us Q I rx rs ⟨al, U, S, a, ds, d, S', sr, ra, rds, e, q⟩
  replace e : insD a ds S = .ok (d, S') := e
  unfold insD at e
  split at e <;> try (cases e; done)
  rename_i n i d0
  split at e <;> try (cases e; done)
  rename_i es eo
  split at e <;> try (cases e; done)
  rename_i hi
  cases e
  simp only [Reps, Rep] at ra rds
  obtain ⟨hn, rfl⟩ := ra
  obtain ⟨w, _, rfl, rfl, z, _, rfl, rz, rfl⟩ := rds
  obtain ⟨vs, h1, l1, r1⟩ := sr.obj n _ eo
  have hl := r1.length
  obtain ⟨n1, s1⟩ := sr.put hn (ho := .lst (vs.take i.toNat ++ [z] ++ vs.drop i.toNat)) (o := .lst (es.take i.toNat ++ [d0] ++ es.drop i.toNat)) fun g => by
    refine ⟨_, upd_same, ?_, (((Reps.nxt g _ _ r1).take _).append (by simp only [Reps]; exact ⟨z, [], rfl, Rep.nxt g _ _ rz, rfl⟩)).append ((Reps.nxt g _ _ r1).drop _)⟩
    have h3 := hi.2.2
    simp only [List.length_append, List.length_take, List.length_singleton, List.length_drop]
    omega
  exact mt_insert pins s σ H _ _ v us Q I rx rs ⟨_, vs, i, z, rfl, rfl, h1, by rw [← hl]; exact hi.2.2, hi.1, by omega, q _ _ _ n1 s1 (by simp only [Rep])⟩
/-- xs.pop() -/
theorem mt_pop0 : MtR X "list.pop" (rM X.kw (mthD .pop0)) := by
  intro pins s σ H x xs v us Q I rx rs ⟨al, U, S, a, ds, d, S', sr, ra, rds, e, q⟩
  replace e : popD a ds S = .ok (d, S') := e
  unfold popD at e
  split at e <;> try (cases e; done)
  rename_i n
  split at e <;> try (cases e; done)
  rename_i es eo
  split at e <;> try (cases e; done)
  rename_i d' hd
  cases e
  simp only [Reps, Rep] at ra rds
  obtain ⟨hn, rfl⟩ := ra
  subst rds
  obtain ⟨vs, h1, l1, r1⟩ := sr.obj n _ eo
  have hl := r1.length
  obtain ⟨y, hy, ry⟩ := r1.get hd
  obtain ⟨n1, s1⟩ := sr.put hn (ho := .lst vs.dropLast) (o := .lst es.dropLast) fun g => by
    refine ⟨_, upd_same, by rw [List.length_dropLast]; omega, ?_⟩
    have := (Reps.nxt g _ _ r1).take (es.length - 1)
    have e1 : es.dropLast = es.take (es.length - 1) := List.dropLast_eq_take
    have e2 : vs.take (es.length - 1) = vs.dropLast := by rw [List.dropLast_eq_take, hl]
    rw [e2] at this
    rw [e1]
    exact this
  exact mt_pop pins s σ H _ _ v us Q I rx rs ⟨_, vs, y, rfl, rfl, h1, by rw [← hl]; exact hy, q _ _ _ n1 s1 (Rep.nxt n1 _ _ ry)⟩
theorem se_pop0 {o : Expr} {apos cpos : Pos} {fo : Env → Store → R (D × Store)} (hb : attributeBase o "pop" X.env (eval o X.env) = eval o X.env) (hl : (apos.endLine == cpos.line) = true) (ho : PE X o (tEv X.kw fo)) :
    PE X (.Call (.Attribute o "pop" apos) [] [] cpos) (tEv X.kw fun rho S => (fo rho S).bind fun p => if recvOk .pop0 p.1 p.2 then mthD .pop0 p.1 [] p.2 else .bad) := by
  refine pe_weak (pe_bm0 PySem.F.plainAttrs_list PySem.F.slot_list_pop PySem.F.type_list_pop mt_pop0 ho hb hl) fun σ H Q ⟨al, U, S, rho, d, S', sr, er, e, q⟩ => ?_
  obtain ⟨⟨d1, S1⟩, e1, e⟩ := R.bind_ok e
  refine ⟨al, U, S, rho, d1, S1, sr, er, e1, fun v1 H1 al1 n1 sr1 r1 => ?_⟩
  split at e
  · rename_i hr
    refine ⟨?_, al1, U, S1, d1, [], d, S', sr1, r1, by simp only [Reps], e, fun v3 H3 al3 n3 sr3 r3 => q v3 H3 al3 (sr1.trans n1 n3) sr3 r3⟩
    cases d1 with
    | ref m =>
      unfold recvOk at hr
      simp only at hr
      split at hr
      · rename_i ds eo
        obtain ⟨vs, h1, _⟩ := sr1.obj m _ eo
        simp only [Rep] at r1
        rw [r1.2]
        exact .inl ⟨rfl, vs, SqL.of h1⟩
      · cases hr
    | _ => cases hr
  · cases e
/-- a method of a thing that is known by its own way -/
theorem pe_bmP {o e : Expr} {es : List Expr} {to : TE} {t : TA} {name : Str} {apos cpos : Pos} {T id : String} {r : V → List V → Hp → VK → Prop} {rT : V → Hp → Prop} (pa : PlainAttrs T) (slot : Slot T name id) (hty : typeOf (.builtin id) = pure (.type "method_descriptor")) (hm : MtR X id r)
    (hT : ∀ {pins : List (Addr × Obj)} {s : Shared} {σ : L2.St} {H : Hp} {x : V} {v : Value}, Inv X pins σ H s → RelV x v → rT x H → s.TypeIs v T ∧ ∀ a, v = .ref a → ∃ ob, s.heap.get? a = some ob ∧ ob.dict = none)
    (ho : PE X o to) (ha : PA X (e :: es) t) (hbase : attributeBase o name X.env (eval o X.env) = eval o X.env)
    (hfew : ((backTo cpos (starEach (e :: es) X.env)).all (fun x => !x.1) && (backToKw cpos (keywordEach [] X.env)).all (fun x => x.1.isSome)
      && decide ((e :: es).length + ([] : List Keyword).length + (if ([] : List Keyword).isEmpty then 0 else 1) < 30)) = true)
    (hline : (apos.endLine == cpos.line) = true) (hs : starEach (e :: es) X.env = (false, eval e X.env) :: starEach es X.env) (hplain : (backTo cpos (starEach es X.env)).any (·.1) = false) :
    PE X (.Call (.Attribute o name apos) (e :: es) [] cpos) (fun σ H Q => to σ H fun x H1 => rT x H1 ∧ t σ H1 fun xs H2 => r x xs H2 Q) := by
  refine ⟨fun pins s σ H Q I h => wpAny_Call_method_late hbase hfew hline rfl (thn (ho.run pins s σ H _ I h) fun v s1 hh => ?_)⟩
  obtain ⟨x, H1, I1, r1, ty, q1⟩ := hh
  obtain ⟨h1, h2⟩ := hT I1 r1 ty
  refine ⟨T, id, pa, slot, hty, h1, h2, ?_⟩
  have hA := ha.run cpos pins s1 σ H1 _ I1 q1
  rw [hs] at hA ⊢
  refine Calls.callWith_builtin (by show (false || (backTo cpos (starEach es X.env)).any (·.1)) = false; rw [hplain]; rfl) (Calls.evalArgs_plain (thn hA fun us s2 hh2 => ?_))
  obtain ⟨vs, H2, I2, r2, q2⟩ := hh2
  exact hm pins s2 σ H2 x vs v us Q I2 r1 r2 q2
end
section
variable {X : Cx}
theorem set_D (hu : X.A.units + 64 < cLine) : PSet X (tSubD X.kw) := by
  intro pins s σ H o i v ov iv u Q I ro ri rv ⟨al, U, S, a, b, d, S', sr, ra, rb, rd, e, q⟩
  unfold subD at e
  cases a with
  | ref n =>
    simp only [Rep] at ra
    obtain ⟨hm, rfl⟩ := ra
    simp only at e
    split at e
    · rename_i es eo
      obtain ⟨vs, h1, l, rvs⟩ := sr.obj n _ eo
      cases b with
      | int j =>
        simp only at e
        split at e
        · rename_i k ek
          cases e
          simp only [Rep] at rb
          obtain ⟨n1, s1⟩ := sr.put hm (ho := .lst (vs.set k v)) (o := .lst (es.set k d)) fun g => ⟨_, upd_same, by simpa using l, Reps.set (Rep.nxt g _ _ rd) k (Reps.nxt g _ _ rvs)⟩
          exact set_list pins s σ H _ i v ov iv u Q I ro ri rv ⟨_, vs, j, k, rfl, rb, h1, by rw [← rvs.length]; exact ek, q _ _ n1 s1⟩
        · cases e
      | _ => cases e
    · rename_i ks vs eo
      obtain ⟨kvs, h1, l, r1, r2, r3, r4⟩ := sr.obj n _ eo
      split at e
      · rename_i hf
        cases e
        obtain ⟨k, ek, ex⟩ := keyOk_rep rb hf.1
        have hlen : kvs.length = ks.length := by
          have := congrArg List.length r1
          simpa using this.symm
        have rl : vs.length = kvs.length := by simpa using r2.length
        obtain ⟨f1, _⟩ := findK_val hf.1 ek hf.2.1 r1 r2
        have hany : (kvs.any fun kv => decide (kv.1 = k)) = inD b ks := by rw [valV_any, f1]
        obtain ⟨n1, s1⟩ := sr.put hm (ho := .dK (L2.putK kvs k v)) (o := .dct (putK ks vs b d).1 (putK ks vs b d).2) fun g => by
          refine ⟨L2.putK kvs k v, upd_same, ?_⟩
          have rd' := Rep.nxt g _ _ rd
          have r2' := Reps.nxt g _ _ r2
          generalize upd H (al n) (HO.dK (L2.putK kvs k v)) = HH at rd' r2' ⊢
          unfold Z.putK L2.putK
          rw [hany]
          cases hi : inD b ks with
          | true =>
            simp only [if_true]
            refine ⟨l, ?_, putV_rep hf.1 ek rd' hf.2.1 r1 r2', ?_, r4⟩
            · rw [r1, List.map_map]
              apply List.map_congr_left
              intro p _
              simp only [Function.comp]
              split <;> rfl
            · rw [List.map_map]
              have : ((fun x : Key × V => x.1) ∘ fun kv : Key × V => if kv.1 = k then (kv.1, v) else kv) = fun x => x.1 := by
                funext p
                simp only [Function.comp]
                split <;> rfl
              rw [this]
              exact r3
          | false =>
            simp only [Bool.false_eq_true, if_false]
            refine ⟨by simp only [List.length_append, List.length_singleton]; exact hf.2.2, ?_, ?_, ?_, ?_⟩
            · rw [List.map_append, List.map_append, r1]
              simp [ek]
            · rw [List.map_append]
              refine r2'.append ?_
              simp only [List.map_cons, List.map_nil, Reps]
              exact ⟨_, _, rfl, rd', rfl⟩
            · rw [List.map_append]
              refine List.nodup_append.mpr ⟨r3, by simp, ?_⟩
              intro x hx y hy
              simp at hy
              subst hy
              intro exy
              subst exy
              rw [hi] at hany
              obtain ⟨p, hp, rfl⟩ := List.mem_map.mp hx
              have := List.any_eq_false.mp hany p hp
              simp at this
            · intro s hs
              rcases List.mem_append.mp hs with hs | hs
              · exact r4 s hs
              · simp at hs
                subst hs
                simp only [Rep] at rb
                exact rb.2
        obtain rfl : ov = Value.ref (al n) := ro
        exact d_setItem (by omega) I (ex ▸ DPut.k h1 (by rw [hlen]; exact hf.2.2)) ri rv fun s4 I4 => ⟨_, I4, q _ _ n1 s1⟩
      · cases e
    · rename_i ks vs eo
      split at e
      · rename_i k ek
        split at e
        · rename_i hl
          cases e
          obtain rfl : ov = Value.ref (al n) := ro
          exact n_setItem hu I sr hm eo ri rb rv rd ek hl fun H' s4 I4 n1 s1 => ⟨_, I4, q _ _ n1 s1⟩
        · cases e
      · cases e
    · cases e
  | _ => cases e
end
end Z

set_option Elab.async false
set_option linter.all false
set_option maxRecDepth 100000
set_option maxHeartbeats 4000000
/-! RevA: x[::-1] of a text, a tuple, a list. -/
namespace Z
open PySem L2 PySem.Spec PyProof.Rows
section
variable {prog : Program} {w : World} {A : Around} {E : Value → Shared → Prop} {s : Shared}
theorem applied_back {sl : Addr} {uk : Tok} {n : Nat} {Q : Int × Int × Nat → Shared → Prop} (hs : s.heap.IsSliceOf sl .none .none (.int (-1) uk)) (h : Q (((n : Int) - 1), -1, n) s) : wpAny (model prog w) A (Builtin.Slice.sliceApplied (.ref sl) (pure (n : Int))) Q E s := by
  obtain ⟨os, a1, a2, a3⟩ := id hs
  unfold Builtin.Slice.sliceApplied Builtin.Slice.sliceFields
  refine wpAny_bind (wpAny_bind (wpAny_field a1 a3 (x := .none) rfl (wpAny_bind (wpAny_field a1 a3 (x := .none) rfl (wpAny_bind (wpAny_field a1 a3 (x := .int (-1) uk) rfl (wpAny_pure ?_)))))))
  refine wpAny_bind (HT.slicePart_ (o := some (-1)) (.int (-1) uk) ?_)
  show wpAny _ _ (if ((-1 : Int) == 0) = true then _ else _) _ _ s
  rw [if_neg (by decide)]
  refine wpAny_bind (HT.slicePart_ .none (wpAny_bind (HT.slicePart_ .none (wpAny_bind (wpAny_pure ?_)))))
  show wpAny _ _ (pure ((n : Int) - 1, (-1 : Int), Builtin.Slice.slicePlaces ((n : Int) - 1) (-1) (-1))) _ _ s
  have e : Builtin.Slice.slicePlaces ((n : Int) - 1) (-1) (-1) = n := by
    unfold Builtin.Slice.slicePlaces
    have h1 : ¬ ((-1 : Int) > 0) := by decide
    simp only [h1, if_false]
    by_cases h2 : (n : Int) - 1 > -1
    · rw [if_pos h2]
      have : ((n : Int) - 1 - -1 - 1) / - -1 = (n : Int) - 1 := by
        rw [show (- -1 : Int) = 1 by decide, Int.ediv_one]
        omega
      rw [this]
      omega
    · rw [if_neg h2]
      omega
  rw [e]
  exact wpAny_pure h
theorem fmap_same {A B : Type} {f g : A → Option B} : ∀ {l : List A}, (∀ x ∈ l, f x = g x) → l.filterMap f = l.filterMap g
  | [], _ => rfl
  | x :: l, h => by
    rw [List.filterMap_cons, List.filterMap_cons, h x List.mem_cons_self, fmap_same fun y hy => h y (List.mem_cons_of_mem _ hy)]
theorem pick_back (xs : Array Value) : ((List.range xs.size).filterMap fun (k : Nat) => xs[((xs.size : Int) - 1 + (k : Int) * -1).toNat]?).toArray = xs.toList.reverse.toArray := by
  have e : ((List.range xs.size).filterMap fun (k : Nat) => xs[((xs.size : Int) - 1 + (k : Int) * -1).toNat]?) = ((List.range xs.size).map fun k => xs.size - 1 - k).filterMap (xs[·]?) := by
    rw [List.filterMap_map]
    refine fmap_same fun k hk => ?_
    have := List.mem_range.mp hk
    show xs[((xs.size : Int) - 1 + (k : Int) * -1).toNat]? = xs[xs.size - 1 - k]?
    have e : ((xs.size : Int) - 1 + (k : Int) * -1).toNat = xs.size - 1 - k := by omega
    rw [e]
  rw [e, PySem.W.krv_range, List.filterMap_reverse, PySem.W.krv_all]
theorem item_back {t sl : Addr} {items : Array Value} {uk : Tok} {Q : Value → Shared → Prop} (ht : IsTup s.heap t items) (hs : s.heap.IsSliceOf sl .none .none (.int (-1) uk))
    (h : Q (.ref s.heap.objs.size) { s with heap := s.heap.push { cls := .type "tuple", data := .seq items.toList.reverse.toArray } }) (hsz : items.size ≤ sizeLine) : wpAny (model prog w) A (getItem (.ref t) (.ref sl)) Q E s := by
  have fit : sizeOk (.seq items.toList.reverse.toArray) := by
    show items.toList.reverse.toArray.size ≤ sizeLine
    rw [List.size_toArray, List.length_reverse, Array.length_toList]
    exact hsz
  obtain ⟨os, hos, hcs, hds⟩ := id hs
  have hTs : s.TypeIs (.ref sl) "slice" := ⟨os, hos, hcs⟩
  unfold getItem
  (try with_reducible refine wpAny_holding ?_); (first | refine wpAny_bind (wpAny_pure ?_) | skip)
  refine wpAny_bind (wpAny_sequenceKey ht.typeIs (by decide) ?_)
  refine wpAny_bind (wpAny_callSpecial?_slot (name := Str.ofString "__getitem__") ht.typeIs PyProof.Rows.slot_tuple_getitem (wpAny_call_entry PyProof.Rows.slot_tuple_getitem ht.typeIs entry_tuple_getitem ?_ (args_tuple_getitem _ _)))
  (show wpAny _ _ (Builtin.Tuple.tupleItemsOf (.ref t) >>= _) _ _ s); refine wpAny_bind (tupleItemsOf_ ht (wpAny_bind (wpAny_typeOf hTs ?_)))
  rw [if_pos (by decide)]
  refine wpAny_bind (applied_back (n := items.size) hs ?_)
  show wpAny _ _ (if (((items.size : Int) - 1) == 0 && (-1 : Int) == 1 && items.size == items.size) = true then _ else _) _ _ s
  rw [if_neg (by simp), pick_back]
  first
    | exact wpAny_bind (m := Builtin.Tuple.tupleExact _) (wpAny_newObj_type (wpAny_pure ⟨_, rfl, wpAny_pure h⟩) fit)
    | exact wpAny_bind (m := Builtin.Tuple.tupleExact _) (wpAny_newObj_type (wpAny_bind (wpAny_pure (wpAny_pure ⟨_, rfl, wpAny_pure h⟩))) fit)
    | exact wpAny_bind (wpAny_bind (m := Builtin.Tuple.tupleExact _) (wpAny_newObj_type (wpAny_pure (wpAny_pure ⟨_, rfl, wpAny_pure h⟩)) fit))
    | exact wpAny_bind (wpAny_bind (m := Builtin.Tuple.tupleExact _) (wpAny_newObj_type (wpAny_pure ⟨_, rfl, wpAny_pure h⟩) fit))
end
theorem Reps.rev {K : KW} {al : Nat → Addr} {n : Nat} {U : List Addr} {H : Hp} : ∀ {ds : List D} {vs : List V}, Reps K al n U H ds vs → Reps K al n U H ds.reverse vs.reverse
  | [], vs, h => by
    simp only [Reps] at h
    subst h
    simp [Reps]
  | d :: ds, vs, h => by
    simp only [Reps] at h
    obtain ⟨v, r, rfl, h1, h2⟩ := h
    rw [List.reverse_cons, List.reverse_cons]
    refine Reps.append (Reps.rev h2) ?_
    simp only [Reps]
    exact ⟨v, [], rfl, h1, rfl⟩
def tRevA (K : PySem.W.Frag) (te : TE) : TE := fun σ H Q => te σ H fun x H1 => (∃ z, x = .str z ∧ z.length ≤ sizeLine ∧ Q (.str (revS z)) H1) ∨
  (∃ a xs, x = .ref a ∧ SqT K H1 a xs ∧ ∀ p ob, H1 p = none → ob.dict = none → Q (.ref p) (upd H1 p (.frz ob (.tup xs.reverse)))) ∨
  (∃ a xs, x = .ref a ∧ SqL K H1 a xs ∧ ∀ p, H1 p = none → Q (.ref p) (upd H1 p (.lst xs.reverse)))
section
variable {X : Cx}
theorem pe_revA {e : Expr} {te : TE} {k : Nat} {p1 p2 p3 pos : Pos} (he : PE X e te) : PE X (.Subscript e (.Slice none none (some (.UnaryOp .USub (.Constant (.int 1) k p1) p2)) p3) pos) (tRevA X.K te) := by
  refine ⟨fun pins s σ H Q I h => ?_⟩
  refine Subscript_ (thn (he.run pins s σ H _ I h) fun v s1 ⟨x, H1, I1, r1, q1⟩ => ?_)
  have hst : PO X (some (.UnaryOp .USub (.Constant (.int 1) k p1) p2)) (tPart (tUn (rU fun i => .int (-i)) (tC (.int 1)))) := po_some (pe_un un_neg pe_int)
  refine wpAny_Slice (thn (po_none.run pins s1 σ H1 (fun o H2 => o = none ∧ H2 = H1) I1 ⟨rfl, rfl⟩) fun vl s2 ⟨l, H2, I2, pl, el, e2⟩ => ?_)
  subst el e2
  refine thn (po_none.run pins s2 σ H2 (fun o H3 => o = none ∧ H3 = H2) I2 ⟨rfl, rfl⟩) fun vu s3 ⟨u, H3, I3, pu, eu, e3⟩ => ?_
  subst eu e3
  refine thn (hst.run pins s3 σ H3 (fun o H4 => o = some (-1) ∧ H4 = H3) I3 ⟨1, rfl, -1, rfl, rfl, rfl⟩) fun vs s4 ⟨o, H4, I4, ps, eo, e4⟩ => ?_
  subst eo e4
  cases pl
  cases pu
  obtain ⟨sp, e5, e6⟩ := IsPart.raw ps
  cases sp with
  | none => cases e6
  | some sp =>
    obtain ⟨w, uk⟩ := sp
    have ew : w = -1 := by
      have : some w = some (-1) := e6
      exact Option.some.inj this
    subst ew
    have e7 : vs = .int (-1) uk := e5
    subst e7
    have I5 : Inv X pins σ H4 { s4 with heap := s4.heap.push { cls := .type "slice", data := .fields #[.none, .none, .int (-1) uk] } } := I4.kept (t' := s4.toks) fun b ob q => Heap.get?_push_of_some _ q
    have hsl : (s4.heap.push { cls := .type "slice", data := .fields #[.none, .none, .int (-1) uk] }).IsSliceOf s4.heap.objs.size .none .none (.int (-1) uk) := Heap.IsSliceOf.new ..
    show wpAny (model X.prog X.w) X.A (subscriptTail e (.Slice none none (some (.UnaryOp .USub (.Constant (.int 1) k p1) p2)) p3) v (.ref s4.heap.objs.size)) (EP X pins σ Q) X.xe { s4 with heap := s4.heap.push { cls := .type "slice", data := .fields #[.none, .none, .int (-1) uk] } }
    rcases q1 with ⟨z, ex, hz, q⟩ | ⟨a, xs, ex, hx, q⟩ | ⟨a, xs, ex, hx, q⟩
    · subst ex
      obtain ⟨tz, rfl⟩ := r1
      refine tail_any (ops := [.str z tz, .ref s4.heap.objs.size]) (typeIs_str _ _ _) F.slot_str_getitem.lookup ?_ (by with_unfolding_all rfl)
      refine wpAny_getItem_str_slice (l := none) (u := none) (st := some (-1, uk)) hsl rfl (post_val_or_str ⟨Nat.le_trans (Txt.sliceBy_le z _ _ (-1, uk) (show (-1 : Int) ≠ 0 by decide)) hz, fun t' c => ?_⟩)
      show EP X pins σ Q (.str (Txt.sliceBy z none none (-1, uk)) t') _
      rw [rev_by z uk]
      exact ⟨.str (revS z), H4, I5.tok _, ⟨t', rfl⟩, q⟩
    · subst ex
      cases r1
      obtain ⟨its, r, ht, hz⟩ := I5.tuple hx
      refine tail_any (ops := [.ref a, .ref s4.heap.objs.size]) ht.typeIs PyProof.Rows.slot_tuple_getitem.lookup ?_ (by with_unfolding_all rfl)
      refine item_back ht hsl ?_ (by rw [List.size_toArray, ← r.length]; exact hz)
      have eg : ((s4.heap.push { cls := .type "slice", data := .fields #[.none, .none, .int (-1) uk] }).push { cls := .type "tuple", data := .seq its.reverse.toArray }).get? (s4.heap.push { cls := .type "slice", data := .fields #[.none, .none, .int (-1) uk] }).objs.size = some { cls := .type "tuple", data := .seq its.reverse.toArray } := Heap.get?_push_size _ rfl
      refine ⟨.ref _, _, I5.laid (t' := s4.toks) (o := .frz { cls := .type "tuple", data := .seq its.reverse.toArray } (.tup xs.reverse)) (fun b ob q => Heap.get?_push_of_some _ q) (Nat.le_refl _) ?_, rfl, q _ _ (I5.hok.fresh (Nat.le_refl _)) rfl⟩
      exact ⟨eg, by rw [List.length_reverse]; exact hz, _, r.reverse, ⟨_, eg, rfl, _, rfl⟩⟩
    · subst ex
      cases r1
      obtain ⟨its, r, ht, hz⟩ := I5.list hx
      have hlen := r.length
      refine tail_any (ops := [.ref a, .ref s4.heap.objs.size]) ht.isList.typeIs (PySem.slot_list_getitem.lookup) ?_ (by with_unfolding_all rfl)
      refine wpAny_getItem_list_slice ht.isList hsl .none .none ps (by decide) ?_ (by rw [List.size_toArray]; omega)
      rw [PySem.W.krv_pick]
      refine ⟨.ref _, _, I5.laid (t' := s4.toks) (o := .lst xs.reverse) (fun b ob q => Heap.get?_push_of_some _ q) (Nat.le_refl _) ?_, rfl, q _ (I5.hok.fresh (Nat.le_refl _))⟩
      exact ⟨by rw [List.length_reverse]; exact hz, _, 0, r.reverse, Heap.get?_push_size _ rfl⟩
/-- a in range(n), a not in range(n) -/
theorem call_rng1 : CallR X (.type "range") (fun vs H Q => ∃ j, vs = [V.int j] ∧ ∀ p, H p = none → Q (.ref p) (upd H p (.rng 0 j))) := by
  intro pins s σ H vs us Q I r h
  obtain ⟨j, rfl, q⟩ := h
  cases r with
  | cons rj rt =>
    cases rt
    obtain ⟨u, rfl⟩ := rj
    refine call_range_1 ⟨.ref s.heap.objs.size, upd H s.heap.objs.size (.rng 0 j), I.laid (t' := s.toks + 2) (fun b o e => Heap.get?_push_of_some _ e) (Nat.le_refl _) ?_, rfl, q _ (I.hok.fresh (Nat.le_refl _))⟩
    exact ⟨_, _, _, Heap.get?_push_size _ rfl⟩
theorem op_rng (neg : Bool) : OpR X (compareOp (if neg then .NotIn else .In)) (fun x y H Q => ∃ i a lo hi, x = V.int i ∧ y = V.ref a ∧ H a = some (.rng lo hi) ∧ Q (.bl (if neg then !decide (lo ≤ i ∧ i < hi) else decide (lo ≤ i ∧ i < hi))) H) := by
  intro pins s σ H x y v u Q I rx ry h
  obtain ⟨i, a, lo, hi, rfl, rfl, ha, q⟩ := h
  obtain ⟨k, rfl⟩ := rx
  obtain rfl : u = Value.ref a := ry
  obtain ⟨t1, t2, t3, ho⟩ := I.hok a _ ha
  cases neg with
  | false =>
    show wpAny _ _ (do return Value.bool (← contains (Value.ref a) (Value.int i k))) _ _ s
    refine wpAny_bind (wpAny_contains_slot (T := "range") ⟨_, ho, rfl⟩ F.slot_range_contains (call_meets F.slot_range_contains ⟨_, ho, rfl⟩ F.entry_range_contains (F.args_range_contains_2 _ _) (q_contains a lo hi i t1 t2 t3 k) ⟨ho, wpAny_truthy_bool (wpAny_pure ⟨.bl _, H, I, rfl, ?_⟩)⟩))
    rw [place1]
    exact q
  | true =>
    show wpAny _ _ (do return Value.bool (!(← contains (Value.ref a) (Value.int i k)))) _ _ s
    refine wpAny_bind (wpAny_contains_slot (T := "range") ⟨_, ho, rfl⟩ F.slot_range_contains (call_meets F.slot_range_contains ⟨_, ho, rfl⟩ F.entry_range_contains (F.args_range_contains_2 _ _) (q_contains a lo hi i t1 t2 t3 k) ⟨ho, wpAny_truthy_bool (wpAny_pure ⟨.bl _, H, I, rfl, ?_⟩)⟩))
    rw [place1]
    exact q
theorem se_rev {a : Expr} {fa : Env → Store → R (D × Store)} {k : Nat} {p1 p2 p3 pos : Pos} (ha : PE X a (tEv X.kw fa)) : PE X (.Subscript a (.Slice none none (some (.UnaryOp .USub (.Constant (.int 1) k p1) p2)) p3) pos) (tEv X.kw fun rho S => (fa rho S).bind fun p => revD p.1 p.2) := by
  refine pe_weak (pe_revA ha) fun σ H Q ⟨al, U, S, rho, d, S', sr, er, e, q⟩ => ?_
  obtain ⟨⟨d1, S1⟩, e1, e⟩ := R.bind_ok e
  refine ⟨al, U, S, rho, d1, S1, sr, er, e1, fun v1 H1 al1 n1 sr1 r1 => ?_⟩
  cases d1 with
  | str x =>
    cases e
    simp only [Rep] at r1
    refine .inl ⟨_, r1.1, by rw [toS_length]; exact r1.2, ?_⟩
    rw [revS_toS]
    exact q _ _ _ n1 sr1 (by simp only [Rep]; exact ⟨trivial, by rw [List.length_reverse]; exact r1.2⟩)
  | tup ds =>
    cases e
    simp only [Rep] at r1
    obtain ⟨p, vs, rfl, t, l, rs⟩ := r1
    exact .inr (.inl ⟨p, vs, rfl, t.sq, new_tup sr1 (by rw [List.length_reverse]; exact l) rs.rev fun v H2 al2 n2 sr2 r2 => q v H2 al2 (sr1.trans n1 n2) sr2 r2⟩)
  | lst ds =>
    cases e
    simp only [Rep] at r1
    obtain ⟨p, vs, rfl, t, l, rs⟩ := r1
    exact .inr (.inr ⟨p, vs, rfl, t.sq, new_lst sr1 (by rw [List.length_reverse]; exact l) rs.rev fun v H2 al2 n2 sr2 r2 => q v H2 al2 (sr1.trans n1 n2) sr2 r2⟩)
  | _ => cases e
theorem inrg_q {al1 : Nat → Addr} {U : List Addr} {S1 S2 S' : Store} {H1 H2 : Hp} {neg : Bool} {d1 d2 d : D} {v1 v2 : V} {al2 : Nat → Addr} {Q : VK} (sr1 : SR X.kw al1 U S1 H1) (n2 : Nxt al1 S1.length H1 al2 S2.length H2) (sr2 : SR X.kw al2 U S2 H2) (r1 : Rep X.kw al1 S1.length U H1 d1 v1) (r2 : Rep X.kw al2 S2.length U H2 d2 v2) (e : inRgD neg d1 d2 S2 = .ok (d, S'))
    (q : ∀ v H' al', Nxt al1 S1.length H1 al' S'.length H' → SR X.kw al' U S' H' → Rep X.kw al' S'.length U H' d v → Q v H') : ∃ j, [v2] = [V.int j] ∧ ∀ p, H2 p = none → ∃ i a lo hi, v1 = V.int i ∧ V.ref p = V.ref a ∧ upd H2 p (.rng 0 j) a = some (.rng lo hi) ∧ Q (.bl (if neg then !decide (lo ≤ i ∧ i < hi) else decide (lo ≤ i ∧ i < hi))) (upd H2 p (.rng 0 j)) := by
  have r1' := Rep.nxt n2 _ _ r1
  cases d1 with
  | int i =>
    cases d2 with
    | int j =>
      cases e
      simp only [Rep] at r1' r2
      subst r1' r2
      refine ⟨_, rfl, fun p hp => ⟨_, p, 0, _, rfl, rfl, upd_same, ?_⟩⟩
      obtain ⟨n3, s3⟩ := sr2.lay hp (.rng 0 j)
      exact q _ _ al2 (sr2.trans n2 n3) s3 (by simp only [Rep])
    | _ => cases e
  | _ => cases e
theorem pe_rng1 {b : Expr} {fb : Env → Store → R (D × Store)} {p p2 : Pos} (hg : Gl X "range") (hm : X.mg "range" = none) (hb : PE X b (tEv X.kw fb)) (hs : starEach [b] X.env = (false, eval b X.env) :: starEach [] X.env) : PE X (.Call (.Name "range" p) [b] [] p2) (tCB (fun vs H Q => ∃ j, vs = [V.int j] ∧ ∀ p, H p = none → Q (.ref p) (upd H p (.rng 0 j))) (tCons (tEv X.kw fb) tNil)) :=
  pe_callTy call_rng1 hg hm (by decide +kernel) (pa_cons hb pa_nil hs) (by decide +kernel) (by decide +kernel) hs rfl
theorem se_inrg {a b : Expr} {fa fb : Env → Store → R (D × Store)} {p p2 pos : Pos} (neg : Bool) (hg : Gl X "range") (hm : X.mg "range" = none) (ha : PE X a (tEv X.kw fa)) (hb : PE X b (tEv X.kw fb)) (hs : starEach [b] X.env = (false, eval b X.env) :: starEach [] X.env) :
    PE X (.Compare a [if neg then .NotIn else .In] [.Call (.Name "range" p) [b] [] p2] pos) (tEv X.kw fun rho S => (fa rho S).bind fun p => (fb rho p.2).bind fun q => inRgD neg p.1 q.1 q.2) := by
  refine pe_weak (pe_cmpR (op_rng neg) ha (pe_rng1 hg hm hb hs) (by cases neg <;> rfl)) fun σ H Q ⟨al, U, S, rho, d, S', sr, er, e, q⟩ => ?_
  obtain ⟨⟨d1, S1⟩, e1, e⟩ := R.bind_ok e
  obtain ⟨⟨d2, S2⟩, e2, e⟩ := R.bind_ok e
  exact ⟨al, U, S, rho, d1, S1, sr, er, e1, fun v1 H1 al1 n1 sr1 r1 => ⟨al1, U, S1, rho, d2, S2, sr1, er.nxt n1, e2, fun v2 H2 al2 n2 sr2 r2 => inrg_q sr1 n2 sr2 r1 r2 e fun v H' al' n' s' r' => q v H' al' (sr1.trans n1 n') s' r'⟩⟩
theorem st_inrg {a b : Expr} {fa fb : Env → Store → R (D × Store)} {p p2 pos : Pos} (neg : Bool) (hg : Gl X "range") (hm : X.mg "range" = none) (ha : PE X a (tEv X.kw fa)) (hb : PE X b (tEv X.kw fb)) (hs : starEach [b] X.env = (false, eval b X.env) :: starEach [] X.env) :
    PT X (.Compare a [if neg then .NotIn else .In] [.Call (.Name "range" p) [b] [] p2] pos) (tEvT X.kw fun rho S => (fa rho S).bind fun p => (fb rho p.2).bind fun q => inRgD neg p.1 q.1 q.2) := by
  refine pt_weak (pt_cmpR (op_rng neg) ha (pe_rng1 hg hm hb hs) (by cases neg <;> rfl)) fun σ H Q ⟨al, U, S, rho, d, S', sr, er, e, q⟩ => ?_
  obtain ⟨⟨d1, S1⟩, e1, e⟩ := R.bind_ok e
  obtain ⟨⟨d2, S2⟩, e2, e⟩ := R.bind_ok e
  refine ⟨al, U, S, rho, d1, S1, sr, er, e1, fun v1 H1 al1 n1 sr1 r1 => ⟨al1, U, S1, rho, d2, S2, sr1, er.nxt n1, e2, fun v2 H2 al2 n2 sr2 r2 => inrg_q (d := .bl d) (Q := fun x H' => ∃ k, x = V.bl k ∧ Q k H') sr1 n2 sr2 r1 r2 e fun v H' al' n' s' r' => ?_⟩⟩
  simp only [Rep] at r'
  exact ⟨d, r', q _ _ (sr1.trans n1 n') s'⟩
end
end Z

set_option Elab.async false
set_option linter.all false
set_option maxRecDepth 100000
set_option maxHeartbeats 4000000
/-! TxtA: x.upper() -/
namespace Z
open PySem L2 PySem.Spec PyProof.Rows
theorem upC_toNat {c : Char} (h : c.toNat < 128) : (upC c).toNat = if 97 ≤ c.toNat ∧ c.toNat ≤ 122 then c.toNat - 32 else c.toNat := by
  unfold upC
  split
  · have hv : (c.toNat - 32).isValidChar := .inl (by omega)
    unfold Char.ofNat
    rw [dif_pos hv]
    rfl
  · rfl
theorem up_toS : ∀ (x : List Char), (x.all fun c => decide (c.toNat < 128)) = true → Txt.upper (toS x) = toS (x.map upC)
  | [], _ => rfl
  | c :: x, h => by
    rw [List.all_cons, Bool.and_eq_true, decide_eq_true_iff] at h
    have e3 : ∀ c : Char, toS [c] = (⟨#[c.toNat]⟩ : Str) := fun _ => rfl
    have e1 : toS (c :: x) = (⟨#[c.toNat]⟩ : Str) ++ toS x := by rw [← e3, toS_app]; rfl
    have e2 : toS ((c :: x).map upC) = (⟨#[(upC c).toNat]⟩ : Str) ++ toS (x.map upC) := by rw [← e3, toS_app]; rfl
    rw [e1, e2, PySem.W.KOpn.upper_app, PySem.W.KOpn.upper_one h.1, up_toS x h.2, upC_toNat h.1]
section
variable {X : Cx}
theorem se_upr {o : Expr} {apos cpos : Pos} {fo : Env → Store → R (D × Store)} (hb : attributeBase o "upper" X.env (eval o X.env) = eval o X.env) (hl : (apos.endLine == cpos.line) = true) (ho : PE X o (tEv X.kw fo)) :
    PE X (.Call (.Attribute o "upper" apos) [] [] cpos) (tEv X.kw fun rho S => (fo rho S).bind fun p => if recvOk .upper p.1 p.2 then mthD .upper p.1 [] p.2 else .bad) := by
  refine pe_weak (pe_upper ho hb hl) fun σ H Q ⟨al, U, S, rho, d, S', sr, er, e, q⟩ => ?_
  obtain ⟨⟨d1, S1⟩, e1, e⟩ := R.bind_ok e
  refine ⟨al, U, S, rho, d1, S1, sr, er, e1, fun v1 H1 al1 n1 sr1 r1 => ?_⟩
  split at e
  · cases d1 with
    | str z =>
      have e : uprD (.str z) [] S1 = .ok (d, S') := e
      unfold uprD at e
      simp only at e
      split at e
      · rename_i hz
        cases e
        simp only [Rep] at r1
        obtain ⟨rfl, hl⟩ := r1
        refine ⟨⟨_, rfl⟩, toS z, rfl, rfl, by rw [toS_length]; exact hz.1, ?_⟩
        rw [up_toS z hz.2]
        exact q _ _ al1 n1 sr1 (by simp only [Rep, List.length_map]; exact ⟨trivial, hl⟩)
      · cases e
    | _ => cases e
  · cases e
end
end Z

set_option Elab.async false
set_option linter.all false
set_option maxRecDepth 100000
set_option maxHeartbeats 4000000
/-! SetM: sets of numbers or texts made of a list or a tuple: their size, their items sorted. -/
namespace Z
open PySem L2 PySem.Spec PyProof.Rows
def kOf (e : Int × Value) : Key := match e.2 with
  | .int k _ => .inl k
  | .str x _ => .inr x
  | _ => .inl 0
def kVal : Key → Tok → Value
  | .inl k, t => .int k t
  | .inr x, t => .str x t
theorem kVal_is (k : Key) (t : Tok) : keyIs k (kVal k t) = true := by
  cases k with
  | inl i => exact keyIs_int i t
  | inr x => exact keyIs_str x t
theorem kVal_scan (k : Key) (t : Tok) : (kVal k t).scannable = true := by cases k <;> rfl
theorem kOf_val (h : Int) (k : Key) (t : Tok) : kOf (h, kVal k t) = k := by cases k <;> rfl
def inK (ks : List Key) (j : Key) : Bool := ks.any fun x => decide (x = j)
theorem inK_iff {ks : List Key} {j : Key} : inK ks j = true ↔ j ∈ ks := by
  unfold inK
  rw [List.any_eq_true]
  exact ⟨fun ⟨x, hx, e⟩ => by rw [← of_decide_eq_true e]; exact hx, fun h => ⟨j, h, decide_eq_true rfl⟩⟩
def Mem1 (w : World) (e : Int × Value) : Prop := ∃ k t, e.2 = kVal k t ∧ e.1 = keyH w k
/-- the set at a: S says which keys, n how many -/
def SetM (w : World) (h : Heap) (a : Addr) (S : Key → Bool) (n : Nat) : Prop :=
  ∃ o es ep t, h.get? a = some o ∧ o.ExactSet ∧ o.data = .set es ep t ∧ (∀ e ∈ es.toList, Mem1 w e) ∧ (es.toList.map kOf).Nodup ∧ (∀ k, S k = true ↔ k ∈ es.toList.map kOf) ∧ es.size < scanBound ∧ t.fits es.size = true ∧ es.size = n ∧ Ris t.place.toList ∧ (w.params.followText "set-order" = true ∨ t.led = true)
section
variable {P : Program} {w : World} {h h' : Heap} {a : Addr} {S : Key → Bool} {n : Nat}
theorem SetM.mv (R : SetM w h a S n) (k : ∀ o, h.get? a = some o → h'.get? a = some o) : SetM w h' a S n := by
  obtain ⟨o, es, ep, t, ho, r⟩ := R
  exact ⟨o, es, ep, t, k o ho, r⟩
theorem SetM.cg {S' : Key → Bool} (R : SetM w h a S n) (e : ∀ k, S' k = S k) : SetM w h a S' n := by
  rw [show S' = S from funext e]
  exact R
theorem mem1_elems {l : List (Int × Value)} (g : ∀ e ∈ l, Mem1 w e) : ElemsOf (mixKind P w) l := fun e he => by
  obtain ⟨k, t, h1, h2⟩ := g e he
  exact ⟨⟨k, by rw [h1]; exact kVal_is k t, h2⟩, by rw [h1]; exact kVal_scan k t⟩
theorem mem1_is {e : Int × Value} (g : Mem1 w e) (k : Key) : (mixKind P w).is k e.2 = true ↔ kOf e = k := by
  obtain ⟨k0, t, h1, _⟩ := g
  obtain ⟨x, v⟩ := e
  have h1 : v = kVal k0 t := h1
  subst h1
  rw [kOf_val]
  refine ⟨fun q => ?_, fun q => q ▸ kVal_is k0 t⟩
  exact ((mixKind P w).inj _ _ _ q (kVal_is k0 t)).symm
theorem mem1_mem {l : List (Int × Value)} (g : ∀ e ∈ l, Mem1 w e) (k : Key) : k ∈ l.map kOf ↔ ∃ e ∈ l, (mixKind P w).is k e.2 = true := by
  rw [List.mem_map]
  exact ⟨fun ⟨e, he, q⟩ => ⟨e, he, (mem1_is (g e he) k).2 q⟩, fun ⟨e, he, q⟩ => ⟨e, he, (mem1_is (g e he) k).1 q⟩⟩
end
section
variable {P : Program} {w : World} {A : Around} {E : Value → Shared → Prop} {s : Shared} {a : Addr} {S : Key → Bool} {n : Nat}
theorem setM_tail {g : Bool → Sem Unit} (hg : ∀ (b : Bool) (s₁ : Shared) (Q' : Unit → Shared → Prop), Q' () s₁ → wpAny (model P w) A (g b) Q' E s₁) {o : Obj} {es : Array (Int × Value)} {ep : Nat} {t : SetTable} (ho : s.heap.get? a = some o) (hex : o.ExactSet) (hd : o.data = .set es ep t)
    {es1 : Array (Int × Value)} {t2 : SetTable} {S' : Key → Bool} (g1 : ∀ e ∈ es1.toList, Mem1 w e) (nd1 : (es1.toList.map kOf).Nodup) (m1 : ∀ k, S' k = true ↔ k ∈ es1.toList.map kOf) (hb1 : es1.size < scanBound) (hf2 : t2.fits es1.size = true) (hr : Ris t2.place.toList) (hl : w.params.followText "set-order" = true ∨ t2.led = true) {wasDummy : Bool} {R : Option Bool → Shared → Prop}
    (hR : ∀ h', Heap.SameBut a s.heap h' → SetM w h' a S' es1.size → R (some true) { s with heap := h' }) :
    wpAny (model P w) A (do
        storeSet a es1 t2
        if (!wasDummy && t2.tooFull) = true then do
            g (relayAll t2 es1 (SetTable.grown es1.size)).2.2
            storeSet a (relayAll t2 es1 (SetTable.grown es1.size)).1 (relayAll t2 es1 (SetTable.grown es1.size)).2.1
            pure (some true)
          else pure (some true)) R E s := by
  refine wpAny_bind (wpAny_storeSet_of ho hd ?_ (fits_of_scanBound hb1))
  have p1 := store_at (es' := es1) (t' := t2) ho hd
  have b1 := Heap.SameBut.update s.heap a (Obj.putSet es1 t2)
  split
  · have pm := relayAll_perm t2 es1 (SetTable.grown es1.size)
    have f3 := relayAll_fits t2 es1 (SetTable.grown es1.size)
    have r3 := relayAll_ris t2 es1 (SetTable.grown es1.size)
    have l3 := relayAll_led t2 es1 (SetTable.grown es1.size)
    generalize relayAll t2 es1 (SetTable.grown es1.size) = Z at pm f3 r3 l3 ⊢
    obtain ⟨es2, t3, gave⟩ := Z
    dsimp only at pm f3 r3 l3 ⊢
    have z2 : es2.size = es1.size := by rw [← Array.length_toList, pm.length_eq, Array.length_toList]
    have b2 : es2.size < scanBound := by rw [z2]; exact hb1
    refine wpAny_bind (hg _ _ _ (wpAny_bind (wpAny_storeSet_of p1 rfl ?_ (fits_of_scanBound b2))))
    have p2 := store_at (es' := es2) (t' := t3) p1 rfl
    exact wpAny_pure (hR _ (b1.trans (Heap.SameBut.update _ a _)) ⟨_, es2, _, t3, p2, hex, rfl, fun e he => g1 e (pm.mem_iff.mp he), (pm.map kOf).nodup_iff.mpr nd1, fun k => (m1 k).trans (pm.map kOf).mem_iff.symm, b2, f3, z2, r3, hl.imp id fun z => by rw [l3]; exact z⟩)
  · exact wpAny_pure (hR _ b1 ⟨_, es1, _, t2, p1, hex, rfl, g1, nd1, m1, hb1, hf2, rfl, hr, hl⟩)
theorem setM_hashed {k : Key} {tk : Tok} {Q : Bool → Shared → Prop} (R : SetM w s.heap a S n) (room : n + 1 < scanBound)
    (hQ : ∀ h', Heap.SameBut a s.heap h' → SetM w h' a (fun j => S j || decide (j = k)) (if S k = true then n else n + 1) → Q (!S k) { s with heap := h' }) :
    wpAny (model P w) A (setAddHashed a (kVal k tk) (keyH w k)) Q E s := by
  obtain ⟨o, es, ep, t, ho, hex, hd, g, nd, hm, hb, hf, hn, hr, hl⟩ := R
  have hkey : (mixKind P w).is k (kVal k tk) = true := kVal_is k tk
  have hsc : (kVal k tk).scannable = true := kVal_scan k tk
  have hel : ElemsOf (mixKind P w) es.toList := mem1_elems g
  unfold setAddHashed setAddHashedIn
  refine wpAny_holding (wpAny_bind (wpAny_setState_of ho hd hf ?_))
  dsimp only
  rw [byScan_of hsc hb hel]
  (simp only [↓reduceIte]); unfold setAddByScan
  refine wpAny_bind (wpAny_bind (wpAny_rule (wpAny_bind (wpAny_setScan_of hkey ho hd hf hel ?_))))
  cases hfi : List.findIdx? (fun e => (mixKind P w).is k e.2) es.toList with
  | some j =>
    dsimp only
    obtain ⟨hj, pj, _⟩ := List.findIdx?_eq_some_iff_getElem.mp hfi
    have yes : S k = true := (hm k).2 ((mem1_mem (P := P) (w := w) g k).2 ⟨es.toList[j], List.getElem_mem hj, pj⟩)
    have q := hQ s.heap (Heap.SameBut.refl a s.heap) ⟨o, es, ep, t, ho, hex, hd, g, nd, fun i => by
      rw [Bool.or_eq_true, decide_eq_true_eq, ← hm i]
      exact ⟨fun z => z.elim id (fun e => e ▸ yes), .inl⟩, hb, hf, by rw [if_pos yes]; exact hn, hr, hl⟩
    rw [yes] at q
    exact wpAny_pure (wpAny_pure q)
  | none =>
    dsimp only
    have out : k ∉ es.toList.map kOf := fun z => by
      obtain ⟨e, he, q⟩ := (mem1_mem (P := P) (w := w) g k).1 z
      have c := List.findIdx?_eq_none_iff.mp hfi e he
      rw [q] at c
      cases c
    have no : S k = false := by
      cases q : S k with
      | false => rfl
      | true => exact absurd ((hm k).1 q) out
    have ways : ∀ (b : Bool) {s₁ : Shared} {Q' : Unit → Shared → Prop}, Q' () s₁ → wpAny (model P w) A (match b with | true => rule "set.scan.the-table-gave-way" | false => pure ()) Q' E s₁ := fun b s₁ Q' q => by cases b <;> first | exact wpAny_pure q | exact wpAny_rule q
    have pm := layNew_perm t es (keyH w k) (kVal k tk)
    have f1 := layNew_fits t es (keyH w k) (kVal k tk)
    have r1 := layNew_ris t es (keyH w k) (kVal k tk) hr
    have l1 := layNew_led t es (keyH w k) (kVal k tk)
    generalize layNew t es (keyH w k) (kVal k tk) = Z at pm f1 r1 l1 ⊢
    obtain ⟨es1, t1, wasDummy, gave⟩ := Z
    dsimp only at pm f1 r1 l1 ⊢
    rw [Array.toList_push] at pm
    have pc : es1.toList.Perm ((keyH w k, kVal k tk) :: es.toList) := pm.trans (List.perm_append_singleton _ _)
    have pk : (es1.toList.map kOf).Perm (k :: es.toList.map kOf) := by
      have := pc.map kOf
      rw [List.map_cons, kOf_val] at this
      exact this
    have g1 : ∀ e ∈ es1.toList, Mem1 w e := fun e he => (List.mem_cons.mp (pc.mem_iff.mp he)).elim (fun z => by rw [z]; exact ⟨k, tk, rfl, rfl⟩) (g e)
    have nd1 : (es1.toList.map kOf).Nodup := pk.nodup_iff.mpr (List.nodup_cons.mpr ⟨out, nd⟩)
    have m1 : ∀ i, (S i || decide (i = k)) = true ↔ i ∈ es1.toList.map kOf := fun i => by
      rw [Bool.or_eq_true, decide_eq_true_eq, hm i, pk.mem_iff, List.mem_cons]
      exact Or.comm
    have z1 : es1.size = n + 1 := by rw [← Array.length_toList, pc.length_eq, List.length_cons, Array.length_toList, hn]
    have b1 : es1.size < scanBound := by rw [z1]; exact room
    have ld : w.params.followText "set-order" = true ∨ t1.led = true := hl.imp id fun z => by rw [l1]; exact z
    have fin : ∀ h', Heap.SameBut a s.heap h' → SetM w h' a (fun j => S j || decide (j = k)) es1.size → Q true { s with heap := h' } := fun h' sb r => by
      have q := hQ h' sb
      rw [no] at q
      rw [z1] at r
      exact q r
    refine wpAny_bind (ways _ ?_)
    split
    · refine wpAny_bind ?_
      rw [hashByValue_scannable 8 hsc]
      refine wpAny_pure ?_
      refine setM_tail ?_ ho hex hd g1 nd1 m1 b1 ?_ ?_ ?_ ?_
      · intro b s₁ Q' q; cases b <;> first | exact wpAny_pure q | exact wpAny_rule q
      · first | (split <;> first | exact f1 | exact SetTable.fits_plain_off f1) | exact f1
      · first | (split <;> exact r1) | exact r1
      · first | (split <;> exact ld) | exact ld
      · intro h' sb r; dsimp only; exact wpAny_pure (fin h' sb r)
    · refine wpAny_bind (wpAny_pure ?_)
      simp only [↓reduceIte]
      refine setM_tail ?_ ho hex hd g1 nd1 m1 b1 f1 r1 ld ?_
      · intro b s₁ Q' q; cases b <;> first | exact wpAny_pure q | exact wpAny_rule q
      · intro h' sb r; dsimp only; exact wpAny_pure (fin h' sb r)
theorem nodup_inl {ns : List Int} (h : (ns.map (Sum.inl : Int → Key)).Nodup) : ns.Nodup := by
  induction ns with
  | nil => exact List.nodup_nil
  | cons x ns ih =>
    rw [List.map_cons, List.nodup_cons] at h
    exact List.nodup_cons.mpr ⟨fun q => h.1 (List.mem_map.mpr ⟨x, q, rfl⟩), ih h.2⟩
theorem setM_new {w : World} {h : Heap} {a : Addr} {ks : List Key} (ho : h.get? a = some { cls := .type "set", dict := none, data := .set #[] 0 (.fresh 0 0 (!w.params.followText "set-order")) }) : SetM w h a (inK (ks.take 0)) 0 := by
  refine ⟨_, #[], 0, _, ho, ⟨rfl, rfl, rfl⟩, rfl, (fun e he => by simp at he), (by simp), (fun k => by simp [inK]), (by decide), (by rfl), rfl, List.Pairwise.nil, ?_⟩
  show _ ∨ (!w.params.followText "set-order") = true
  cases w.params.followText "set-order"
  · exact .inr rfl
  · exact .inl rfl
theorem setM_update {I : Addr} {fp wr : List Addr} {G : Array GenState → Array GenState → Prop} {n : Nat} {Pv : Nat → Value → Prop} {St : Nat → Shared → Prop} {R : Result → Shared → Prop} (W : WalksS P w A.in1 I fp wr G n Pv St) (T : Addr) (hT : T ∉ fp) (ks : List Key) (hn : n = ks.length) (hb : ks.length + 1 < scanBound) (hval : ∀ i v, Pv i v → ∃ k t, ks[i]? = some k ∧ v = kVal k t) :
    ∀ (j i : Nat) (s : Shared), n - i = j → i ≤ n → St i s → (∃ c, c ≤ i ∧ SetM w s.heap T (inK (ks.take i)) c) →
      (∀ s' c, Moved (T :: wr) G s s' → c ≤ n → SetM w s'.heap T (inK ks) c → R (.ok (.ret .none)) s') → codeAny (model P w) A (.builtin "set.update.loop" ⟨[.ref T, .ref I], []⟩) R s := by
  have nw : T ∉ wr := fun h => hT (W.sub _ h)
  have sub : ∀ b ∈ wr, b ∈ T :: wr := fun b hb => List.mem_cons_of_mem _ hb
  intro j
  induction j with
  | zero =>
    intro i s hk' hi hst ⟨c, hc, hS⟩ hR
    have hin : i = n := by omega
    subst hin
    refine codeAny_builtin F.entry_set_update_loop ?_
    (rw [Around.under_plainId F.plain_set_update_loop _]); show wpAny _ A.in1 (pyNext (.ref I) >>= _) _ _ s
    refine wpAny_bind (W.done s _ _ hst fun s' hm => ?_)
    show wpAny _ A.in1 (ret Value.none) _ _ s'
    rw [show ks.take i = ks from List.take_of_length_le (by omega)] at hS
    exact wpAny_pure (hR s' c (hm.mono sub) hc (hS.mv fun o e => hm.heap T o nw e))
  | succ j ih =>
    intro i s hk' hi hst ⟨c, hc, hS⟩ hR
    have hlt : i < n := by omega
    refine codeAny_builtin F.entry_set_update_loop ?_
    (rw [Around.under_plainId F.plain_set_update_loop _]); show wpAny _ A.in1 (pyNext (.ref I) >>= _) _ _ s
    refine wpAny_bind (W.item i s _ _ hlt hst fun v s' hP hst' hm => ?_)
    obtain ⟨z, t, hz, rfl⟩ := hval i v hP
    have hS' : SetM w s'.heap T (inK (ks.take i)) c := hS.mv fun o e => hm.heap T o nw e
    show wpAny _ A.in1 (holding [kVal z t] (setAdd T (kVal z t)) >>= _) _ _ s'
    refine wpAny_bind (wpAny_holding ?_)
    unfold setAdd
    refine wpAny_holding (wpAny_bind ((mixKind P w).pyHash (k := z) (kVal_is z t) ?_))
    refine setM_hashed (s := { s' with toks := s'.toks + 1 }) hS' (by omega) fun h' sb hS2 => ?_
    have hS3 : SetM w h' T (inK (ks.take (i + 1))) (if inK (ks.take i) z = true then c else c + 1) := hS2.cg fun j => by
      rw [List.take_add_one, hz]
      simp [inK, List.any_append, eq_comm]
    have hc3 : (if inK (ks.take i) z = true then c else c + 1) ≤ i + 1 := by split <;> omega
    refine wpAny_pure ⟨plainId_quiet F.plain_set_update_loop _, ih (i + 1) _ (by omega) hlt (W.frame _ s' _ _ hst' (Nat.le_succ _) fun b hb o e => ?_) ⟨_, hc3, hS3⟩ fun s'' c2 hm'' hc'' hS'' => ?_⟩
    · rw [sb.2 b (fun h : b = T => hT (by rw [← h]; exact hb))]
      exact e
    · refine hR s'' c2 (Moved.trans W.gtrans ((hm.mono sub).then_heap (Nat.le_succ _) fun b o hb e => ?_) hm'') hc'' hS''
      rw [sb.2 b (fun h : b = T => hb (by rw [h]; exact List.mem_cons_self))]
      exact e
/-- the keys of values -/
inductive Keys : List Value → List Key → Prop
  | nil : Keys [] []
  | cons (k : Key) (t : Tok) {vs : List Value} {ks : List Key} (r : Keys vs ks) : Keys (kVal k t :: vs) (k :: ks)
theorem Keys.len : ∀ {vs : List Value} {ks : List Key}, Keys vs ks → vs.length = ks.length
  | _, _, .nil => rfl
  | _, _, .cons k t r => by rw [List.length_cons, List.length_cons, r.len]
theorem Keys.get : ∀ {vs : List Value} {ks : List Key}, Keys vs ks → ∀ (i : Nat) (v : Value), vs[i]? = some v → ∃ k t, ks[i]? = some k ∧ v = kVal k t
  | _, _, .nil, i, v, h => by simp at h
  | _, _, .cons k t r, 0, v, h => by
    simp at h
    exact ⟨k, t, rfl, h.symm⟩
  | _, _, .cons k t r, i + 1, v, h => by
    obtain ⟨k', t', a, b⟩ := r.get i v (by simpa using h)
    exact ⟨k', t', by simpa using a, b⟩
abbrev newSet (w : World) (h : Heap) : Heap := h.push { cls := .type "set", dict := none, data := .set #[] 0 (.fresh 0 0 (!w.params.followText "set-order")) }
set_option maxHeartbeats 8000000 in
theorem call_set_lst {l : Addr} {items : Array Value} (ks : List Key) {Q : Value → Shared → Prop} (hh : A.handled = none) (hl : s.heap.IsList l items) (hit : Keys items.toList ks) (hb : ks.length + 1 < scanBound)
    (h : ∀ (h' : Heap) (tk c : Nat), SetM w h' s.heap.objs.size (inK ks) c → c ≤ ks.length → (∀ b o, s.heap.get? b = some o → h'.get? b = some o) → Q (.ref s.heap.objs.size) { s with heap := h', toks := tk }) : wpAny (model P w) A (call (.type "set") [.ref l]) Q E s := by
  have hsz : items.size = ks.length := by
    have q := hit.len
    rwa [Array.length_toList] at q
  obtain ⟨c, tl, hmro⟩ := F.called_set.mro
  (have hmade := F.called_set.made); have hsub := F.called_set.sub
  refine wpAny_call (codeAny_of_tree ?_)
  (show wpAny _ _ (callAny (.type "set") _) _ _ _); refine wpAny_pure ⟨Code.quiet_builtin _ (by decide +kernel), codeAny_builtin F.entry_type_call ?_⟩
  rw [Around.under_plain (weight_type_call_type "set" [.ref l] []) rfl]
  (have h1 := F.called_set.notType); (have h2 := F.called_set.canCreate); have hct := F.typeCall_set_1 (.ref l)
  repeat (any_goals (first | assumption | wp_step))
  refine codeAny_mono (code_set_led1 (.ref l) (E := E) (Q₁ := fun obj s₁ => obj = .ref s.heap.objs.size ∧ s₁ = { s with heap := newSet w s.heap }) ⟨rfl, rfl⟩) fun r s₁ hr => ?_
  cases r with
  | error e => exact hr
  | ok fl =>
    cases fl with
    | ret obj =>
      obtain ⟨rfl, rfl⟩ := hr
      have hS : (newSet w s.heap).get? s.heap.objs.size = some { cls := .type "set", dict := none, data := .set #[] 0 (.fresh 0 0 (!w.params.followText "set-order")) } := Heap.get?_push_size _ rfl
      have hT : Shared.TypeIs { s with heap := newSet w s.heap } (.ref s.heap.objs.size) "set" := ⟨_, hS, rfl⟩
      (have hli := F.called_set.init.lookup); have hbi := F.called_set.init.bind (.ref s.heap.objs.size)
      repeat (any_goals (first | assumption | wp_step))
      refine codeAny_mono (codeAny_call_builtin (R := wants (fun r s₂ => r = .none ∧ ∃ h' tk c, s₂ = { s with heap := h', toks := tk } ∧ SetM w h' s.heap.objs.size (inK ks) c ∧ c ≤ ks.length ∧ (∀ b o, s.heap.get? b = some o → h'.get? b = some o)) E) F.called_set.init.plain F.entry_set_init (check_set_init_1 hT ?_)) fun r₂ s₂ hr₂ => ?_
      · obtain ⟨ol, hol, hcl, nl, hdl⟩ := hl
        obtain ⟨ocls, odict, odata, oslots⟩ := ol
        simp only at hcl hdl
        subst hcl
        subst hdl
        have hol' : (newSet w s.heap).get? l = some { cls := .type "list", dict := odict, data := .seq items nl, slots := oslots } := Heap.get?_push_of_some _ hol
        (have hsls := F.sub_list_set); (have hslf := F.sub_list_frozenset)
        have hne : (Value.type "list" == Value.type "dict") = false := by decide
        have hl1 : (newSet w s.heap).IsList l items := ⟨_, hol', rfl, nl, rfl⟩
        unfold Builtin.«set.__init__» noKeywords Builtin.Frozenset.updateFrom
        generalize hPI : pyIter = PI
        wp_walk
        subst hPI
        refine wpAny_pyIter_list hl1 (wpAny_bind (wpAny_runValue ?_))
        have lS : l < s.heap.objs.size := Heap.lt_size hol
        have hh3 : A.in1.in1.in1.handled = none := by simp [hh]
        have z1 : (newSet w s.heap).objs.size = s.heap.objs.size + 1 := Heap.size_push ..
        have neI : l ≠ (newSet w s.heap).objs.size := by rw [z1]; exact Nat.ne_of_lt (Nat.lt_succ_of_lt (by assumption))
        have hSf : s.heap.objs.size ∉ [(newSet w s.heap).objs.size, l] := by
          rw [z1]
          simp only [List.mem_cons, List.mem_singleton, List.not_mem_nil, or_false, not_or]
          exact ⟨Nat.ne_of_lt (Nat.lt_succ_self _), Nat.ne_of_gt lS⟩
        have hval : ∀ (i : Nat) (v : Value), items[i]? = some v → ∃ k t, ks[i]? = some k ∧ v = kVal k t := fun i v hv => hit.get i v (by rw [Array.getElem?_toList]; exact hv)
        refine setM_update ((Walks.list hh3 _ l neI items).toS) s.heap.objs.size hSf ks hsz hb hval (items.size - 0) 0 _ (by omega) (Nat.zero_le _) ⟨⟨_, Heap.get?_push_size _ rfl, rfl, rfl⟩, (hl1.push _)⟩ ?_ ?_
        · exact ⟨0, Nat.le_refl 0, setM_new (ks := ks) (Heap.get?_push_of_some _ hS)⟩
        · intro s' c' hm hc' hS'
          obtain ⟨h', g2, d', tk', os'⟩ := s'
          (have eg : g2 = s.gens := hm.gens); (have ed : d' = s.drawn := hm.drawn); have eo : os' = s.os := hm.os
          subst eg
          subst ed
          subst eo
          show wpAny _ _ _ _ _ _
          refine wpAny_pure ?_
          show wpAny _ _ (ret Value.none) _ _ _
          rw [hsz] at hc'
          refine wpAny_pure ⟨rfl, h', tk', c', rfl, hS', hc', fun b o e => ?_⟩
          have b0 : b < s.heap.objs.size := Heap.lt_size e
          have b2 : b ≠ (newSet w s.heap).objs.size := by rw [z1]; exact Nat.ne_of_lt (Nat.lt_succ_of_lt (by assumption))
          exact hm.heap b o (by simp only [List.mem_cons, List.mem_singleton, List.not_mem_nil, or_false, not_or]; exact ⟨Nat.ne_of_lt b0, b2⟩) (Heap.get?_push_of_some _ (Heap.get?_push_of_some _ e))
      · cases r₂ with
        | error e => exact hr₂
        | ok fl₂ =>
          cases fl₂ with
          | ret r =>
            obtain ⟨rfl, h', tk, c', rfl, hS', hc', hk'⟩ := hr₂
            repeat (any_goals (first | assumption | wp_step))
            exact h _ _ _ hS' hc' hk'
          | _ => exact hr₂.elim
    | _ => exact hr.elim
set_option maxHeartbeats 8000000 in
theorem call_set_tup {l : Addr} {items : Array Value} (ks : List Key) {Q : Value → Shared → Prop} (hh : A.handled = none) (hl : s.heap.IsTuple l items) (hit : Keys items.toList ks) (hb : ks.length + 1 < scanBound)
    (h : ∀ (h' : Heap) (tk c : Nat), SetM w h' s.heap.objs.size (inK ks) c → c ≤ ks.length → (∀ b o, s.heap.get? b = some o → h'.get? b = some o) → Q (.ref s.heap.objs.size) { s with heap := h', toks := tk }) : wpAny (model P w) A (call (.type "set") [.ref l]) Q E s := by
  have hsz : items.size = ks.length := by
    have q := hit.len
    rwa [Array.length_toList] at q
  obtain ⟨c, tl, hmro⟩ := F.called_set.mro
  (have hmade := F.called_set.made); have hsub := F.called_set.sub
  refine wpAny_call (codeAny_of_tree ?_)
  (show wpAny _ _ (callAny (.type "set") _) _ _ _); refine wpAny_pure ⟨Code.quiet_builtin _ (by decide +kernel), codeAny_builtin F.entry_type_call ?_⟩
  rw [Around.under_plain (weight_type_call_type "set" [.ref l] []) rfl]
  (have h1 := F.called_set.notType); (have h2 := F.called_set.canCreate); have hct := F.typeCall_set_1 (.ref l)
  repeat (any_goals (first | assumption | wp_step))
  refine codeAny_mono (code_set_led1 (.ref l) (E := E) (Q₁ := fun obj s₁ => obj = .ref s.heap.objs.size ∧ s₁ = { s with heap := newSet w s.heap }) ⟨rfl, rfl⟩) fun r s₁ hr => ?_
  cases r with
  | error e => exact hr
  | ok fl =>
    cases fl with
    | ret obj =>
      obtain ⟨rfl, rfl⟩ := hr
      have hS : (newSet w s.heap).get? s.heap.objs.size = some { cls := .type "set", dict := none, data := .set #[] 0 (.fresh 0 0 (!w.params.followText "set-order")) } := Heap.get?_push_size _ rfl
      have hT : Shared.TypeIs { s with heap := newSet w s.heap } (.ref s.heap.objs.size) "set" := ⟨_, hS, rfl⟩
      (have hli := F.called_set.init.lookup); have hbi := F.called_set.init.bind (.ref s.heap.objs.size)
      repeat (any_goals (first | assumption | wp_step))
      refine codeAny_mono (codeAny_call_builtin (R := wants (fun r s₂ => r = .none ∧ ∃ h' tk c, s₂ = { s with heap := h', toks := tk } ∧ SetM w h' s.heap.objs.size (inK ks) c ∧ c ≤ ks.length ∧ (∀ b o, s.heap.get? b = some o → h'.get? b = some o)) E) F.called_set.init.plain F.entry_set_init (check_set_init_1 hT ?_)) fun r₂ s₂ hr₂ => ?_
      · obtain ⟨ol, hol, hcl, nl, hdl⟩ := hl
        obtain ⟨ocls, odict, odata, oslots⟩ := ol
        simp only at hcl hdl
        subst hcl
        subst hdl
        have hol' : (newSet w s.heap).get? l = some { cls := .type "tuple", dict := odict, data := .seq items nl, slots := oslots } := Heap.get?_push_of_some _ hol
        (have hsls := F.sub_tuple_set); (have hslf := F.sub_tuple_frozenset)
        have hne : (Value.type "tuple" == Value.type "dict") = false := by decide
        have hl1 : (newSet w s.heap).IsTuple l items := ⟨_, hol', rfl, nl, rfl⟩
        unfold Builtin.«set.__init__» noKeywords Builtin.Frozenset.updateFrom
        generalize hPI : pyIter = PI
        wp_walk
        subst hPI
        refine wpAny_pyIter_tuple hl1 (wpAny_bind (wpAny_runValue ?_))
        have lS : l < s.heap.objs.size := Heap.lt_size hol
        have hh3 : A.in1.in1.in1.handled = none := by simp [hh]
        have z1 : (newSet w s.heap).objs.size = s.heap.objs.size + 1 := Heap.size_push ..
        have neI : l ≠ (newSet w s.heap).objs.size := by rw [z1]; exact Nat.ne_of_lt (Nat.lt_succ_of_lt (by assumption))
        have hSf : s.heap.objs.size ∉ [(newSet w s.heap).objs.size, l] := by
          rw [z1]
          simp only [List.mem_cons, List.mem_singleton, List.not_mem_nil, or_false, not_or]
          exact ⟨Nat.ne_of_lt (Nat.lt_succ_self _), Nat.ne_of_gt lS⟩
        have hval : ∀ (i : Nat) (v : Value), items[i]? = some v → ∃ k t, ks[i]? = some k ∧ v = kVal k t := fun i v hv => hit.get i v (by rw [Array.getElem?_toList]; exact hv)
        refine setM_update ((Walks.tuple hh3 _ l neI items).toS) s.heap.objs.size hSf ks hsz hb hval (items.size - 0) 0 _ (by omega) (Nat.zero_le _) ⟨⟨_, Heap.get?_push_size _ rfl, rfl, rfl⟩, (hl1.push _)⟩ ?_ ?_
        · exact ⟨0, Nat.le_refl 0, setM_new (ks := ks) (Heap.get?_push_of_some _ hS)⟩
        · intro s' c' hm hc' hS'
          obtain ⟨h', g2, d', tk', os'⟩ := s'
          (have eg : g2 = s.gens := hm.gens); (have ed : d' = s.drawn := hm.drawn); have eo : os' = s.os := hm.os
          subst eg
          subst ed
          subst eo
          show wpAny _ _ _ _ _ _
          refine wpAny_pure ?_
          show wpAny _ _ (ret Value.none) _ _ _
          rw [hsz] at hc'
          refine wpAny_pure ⟨rfl, h', tk', c', rfl, hS', hc', fun b o e => ?_⟩
          have b0 : b < s.heap.objs.size := Heap.lt_size e
          have b2 : b ≠ (newSet w s.heap).objs.size := by rw [z1]; exact Nat.ne_of_lt (Nat.lt_succ_of_lt (by assumption))
          exact hm.heap b o (by simp only [List.mem_cons, List.mem_singleton, List.not_mem_nil, or_false, not_or]; exact ⟨Nat.ne_of_lt b0, b2⟩) (Heap.get?_push_of_some _ (Heap.get?_push_of_some _ e))
      · cases r₂ with
        | error e => exact hr₂
        | ok fl₂ =>
          cases fl₂ with
          | ret r =>
            obtain ⟨rfl, h', tk, c', rfl, hS', hc', hk'⟩ := hr₂
            repeat (any_goals (first | assumption | wp_step))
            exact h _ _ _ hS' hc' hk'
          | _ => exact hr₂.elim
    | _ => exact hr.elim
/-- the items of a set, in some order -/
theorem collect_setM {S : Key → Bool} {n : Nat} {a : Addr} {Q : List Value → Shared → Prop} (R : SetM w s.heap a S n) (hh : A.handled = none)
    (hQ : ∀ s' vs ks, (∀ b o, s.heap.get? b = some o → s'.heap.get? b = some o) → s.heap.objs.size ≤ s'.heap.objs.size → s'.gens = s.gens → s'.os = s.os → Keys vs ks → ks.Nodup → (∀ k, S k = true ↔ k ∈ ks) → ks.length = n → Q vs s') : wpAny (model P w) A (collect (.ref a)) Q E s := by
  obtain ⟨o, es, ep, t, ho, hex, hd, g, nd, hm, hb, hf, hn, hr, hl⟩ := R
  refine collect_set hh ⟨o, ho, hex.1, hd⟩ hf hb hr hl fun s1 vs k1 hz g1 o1 pm => ?_
  have all : ∀ v ∈ vs, ∃ k t, v = kVal k t := fun v hv => by
    obtain ⟨e, he, q⟩ := List.mem_map.mp (pm.mem_iff.mp hv)
    obtain ⟨k, tk, h1, _⟩ := g e he
    exact ⟨k, tk, by rw [← q]; exact h1⟩
  have mk : ∀ l : List Value, (∀ v ∈ l, ∃ k t, v = kVal k t) → Keys l (l.map fun v => kOf (0, v)) := by
    intro l
    induction l with
    | nil => intro _; exact .nil
    | cons v l ih =>
      intro h
      obtain ⟨k, t, rfl⟩ := h v List.mem_cons_self
      rw [List.map_cons, kOf_val]
      exact .cons k t (ih fun u hu => h u (List.mem_cons_of_mem _ hu))
  have pk : (vs.map fun v => kOf (0, v)).Perm (es.toList.map kOf) := by
    have q := pm.map fun v => kOf (0, v)
    rw [List.map_map] at q
    exact q
  refine hQ s1 vs _ k1 hz g1 o1 (mk vs all) (pk.nodup_iff.mpr nd) (fun k => (hm k).trans pk.mem_iff.symm) ?_
  rw [List.length_map, pm.length_eq, List.length_map, Array.length_toList]
  exact hn
theorem sorted_setI {S : Key → Bool} {n : Nat} {a : Addr} {Q : Value → Shared → Prop} (R : SetM w s.heap a S n) (hh : A.handled = none) (h64 : n < 64) (hI : ∀ k, S k = true → ∃ i, k = .inl i)
    (hQ : ∀ s' p (out : Array Value) (c : Nat) (ns : List Int), (∀ b o, s.heap.get? b = some o → s'.heap.get? b = some o) → s'.gens = s.gens → s'.os = s.os → s.heap.objs.size ≤ p → s'.heap.get? p = some (seqObj "list" out c) → IntsAre out.toList ns → ns.Pairwise (· ≤ ·) → ns.Nodup → (∀ i, i ∈ ns ↔ S (.inl i) = true) → ns.length = n → Q (.ref p) s') :
    wpAny (model P w) A (call (.builtin "sorted") [.ref a]) Q E s := by
  refine Calls.call_function_entry kind_sorted plain_sorted entry_sorted (args_sorted1 _) ?_
  unfold Builtin.«sorted»
  refine wpAny_bind (m := checkCount "sorted" 1 1 _) (wpAny_pure (wpAny_bind (collect_setM (A := A.in1) R hh fun s1 vs ks k1 hz g1 o1 kk nd hm hn => ?_)))
  have vl : vs.length = n := kk.len.trans hn
  have hi : ∃ ns : List Int, IntsAre vs ns ∧ ks = ns.map Sum.inl := by
    have : ∀ k ∈ ks, ∃ i, k = Sum.inl i := fun k hk => hI k ((hm k).2 hk)
    clear hm nd hn vl hQ
    induction kk with
    | nil => exact ⟨[], .nil, rfl⟩
    | cons k t r ih =>
      obtain ⟨i, rfl⟩ := this k List.mem_cons_self
      obtain ⟨ns, a, b⟩ := ih fun k hk => this k (List.mem_cons_of_mem _ hk)
      exact ⟨i :: ns, .cons i t a, by rw [b]; rfl⟩
  obtain ⟨ns, hI2, rfl⟩ := hi
  refine wpAny_bind (wpAny_newList ?_ (by rw [vl, sizeLine_eq]; omega))
  have hoL : (s1.heap.push (seqObj "list" vs.toArray 0)).get? s1.heap.objs.size = some (seqObj "list" vs.toArray 0) := Heap.get?_push_size _ rfl
  refine wpAny_bind (wpAny_holding (wpAny_call_entry slot_list_sort ⟨_, hoL, rfl⟩ entry_list_sort (list_sort_tree hoL hI2 (by rw [vl]; exact h64) fun out ns' a1 a2 a3 => ⟨_, rfl, ?_⟩) (args_list_sort _)))
  obtain ⟨c, hc⟩ := sortedHeap_at (vs := vs) (out := out) hoL
  have nd2 : ns.Nodup := (nodup_inl nd)
  refine wpAny_pure ⟨_, rfl, hQ _ s1.heap.objs.size out c ns' (fun b u e => ?_) g1 o1 hz hc a1 a3 (a2.nodup_iff.mpr nd2) (fun i => ?_) ?_⟩
  · have q := k1 b u e
    have lt := Heap.lt_size q
    show (sortedHeap (s1.heap.push (seqObj "list" vs.toArray 0)) s1.heap.objs.size vs out).get? b = some u
    rw [sortedHeap_old (Nat.ne_of_lt lt) (by rw [size_push']; exact Nat.lt_succ_of_lt lt)]
    exact Heap.get?_push_of_some _ q
  · rw [a2.mem_iff, hm, List.mem_map]
    exact ⟨fun h => ⟨i, h, rfl⟩, fun ⟨j, hj, e⟩ => by cases e; exact hj⟩
  · rw [a2.length_eq, ← hn, List.length_map]
theorem nodup_inr {ns : List Str} (h : (ns.map (Sum.inr : Str → Key)).Nodup) : ns.Nodup := by
  induction ns with
  | nil => exact List.nodup_nil
  | cons x ns ih =>
    rw [List.map_cons, List.nodup_cons] at h
    exact List.nodup_cons.mpr ⟨fun q => h.1 (List.mem_map.mpr ⟨x, q, rfl⟩), ih h.2⟩
theorem sorted_setS {S : Key → Bool} {n : Nat} {a : Addr} {Q : Value → Shared → Prop} (R : SetM w s.heap a S n) (hh : A.handled = none) (h64 : n < 4096) (hI : ∀ k, S k = true → ∃ i, k = .inr i)
    (hQ : ∀ s' p (out : Array Value) (c : Nat) (ns : List Str), (∀ b o, s.heap.get? b = some o → s'.heap.get? b = some o) → s'.gens = s.gens → s'.os = s.os → s.heap.objs.size ≤ p → s'.heap.get? p = some (seqObj "list" out c) → StrsAre out.toList ns → sortedS ns = true → ns.Nodup → (∀ i, i ∈ ns ↔ S (.inr i) = true) → ns.length = n → Q (.ref p) s') :
    wpAny (model P w) A (call (.builtin "sorted") [.ref a]) Q E s := by
  refine Calls.call_function_entry kind_sorted plain_sorted entry_sorted (args_sorted1 _) ?_
  unfold Builtin.«sorted»
  refine wpAny_bind (m := checkCount "sorted" 1 1 _) (wpAny_pure (wpAny_bind (collect_setM (A := A.in1) R hh fun s1 vs ks k1 hz g1 o1 kk nd hm hn => ?_)))
  have vl : vs.length = n := kk.len.trans hn
  have hi : ∃ ns : List Str, StrsAre vs ns ∧ ks = ns.map Sum.inr := by
    have : ∀ k ∈ ks, ∃ i, k = Sum.inr i := fun k hk => hI k ((hm k).2 hk)
    clear hm nd hn vl hQ
    induction kk with
    | nil => exact ⟨[], .nil, rfl⟩
    | cons k t r ih =>
      obtain ⟨i, rfl⟩ := this k List.mem_cons_self
      obtain ⟨ns, a, b⟩ := ih fun k hk => this k (List.mem_cons_of_mem _ hk)
      exact ⟨i :: ns, .cons i t a, by rw [b]; rfl⟩
  obtain ⟨ns, hI2, rfl⟩ := hi
  refine wpAny_bind (wpAny_newList ?_ (by rw [vl, sizeLine_eq]; omega))
  have hoL : (s1.heap.push (seqObj "list" vs.toArray 0)).get? s1.heap.objs.size = some (seqObj "list" vs.toArray 0) := Heap.get?_push_size _ rfl
  refine wpAny_bind (wpAny_holding (wpAny_call_entry slot_list_sort ⟨_, hoL, rfl⟩ entry_list_sort (list_sort_treeKAny strKind_oneLt hoL hI2.keysOf (fun v₁ v₂ rest e => keyKind_strs (by rw [← e]; exact hI2)) (by rw [vl, sizeLine_eq]; omega) fun st' hp hs => ⟨_, rfl, ?_⟩) (args_list_sort _)))
  obtain ⟨ns', a1, a2, a3⟩ := sorted_out_str hI2 hp hs
  obtain ⟨c, hc⟩ := sortedHeap_at (vs := vs) (out := (arrOf st').map (·.2)) hoL
  have nd2 : ns.Nodup := nodup_inr nd
  refine wpAny_pure ⟨_, rfl, hQ _ s1.heap.objs.size _ c ns' (fun b u e => ?_) g1 o1 hz hc a1 a3 (a2.nodup_iff.mpr nd2) (fun i => ?_) ?_⟩
  · have q := k1 b u e
    have lt := Heap.lt_size q
    show (sortedHeap (s1.heap.push (seqObj "list" vs.toArray 0)) s1.heap.objs.size vs _).get? b = some u
    rw [sortedHeap_old (Nat.ne_of_lt lt) (by rw [size_push']; exact Nat.lt_succ_of_lt lt)]
    exact Heap.get?_push_of_some _ q
  · rw [a2.mem_iff, hm, List.mem_map]
    exact ⟨fun h => ⟨i, h, rfl⟩, fun ⟨j, hj, e⟩ => by cases e; exact hj⟩
  · rw [a2.length_eq, ← hn, List.length_map]
end
end Z

set_option Elab.async false
set_option linter.all false
set_option maxRecDepth 100000
set_option maxHeartbeats 4000000
/-! SetE: len(set(a)), sorted(set(a)). -/
namespace Z
open PySem L2 PySem.Spec PyProof.Rows
theorem nod_len {A : Type} : ∀ {l m : List A}, l.Nodup → (∀ x ∈ l, x ∈ m) → l.length ≤ m.length
  | [], m, _, _ => Nat.zero_le _
  | x :: l, m, h, g => by
    classical
    obtain ⟨h1, h2⟩ := List.nodup_cons.mp h
    have hx := g x List.mem_cons_self
    have ih := nod_len (l := l) (m := m.erase x) h2 fun y hy => (List.mem_erase_of_ne (fun e => by rw [e] at hy; exact h1 hy)).mpr (g y (List.mem_cons_of_mem _ hy))
    have := List.length_erase_of_mem hx
    have := List.length_pos_of_mem hx
    rw [List.length_cons]
    omega
theorem mem_ded {A : Type} [DecidableEq A] {x : A} : ∀ {xs : List A}, x ∈ ded xs ↔ x ∈ xs
  | [] => Iff.rfl
  | y :: xs => by
    unfold ded
    split
    · rename_i h
      rw [List.mem_cons, mem_ded]
      exact ⟨.inr, fun q => q.elim (fun e => e ▸ mem_ded.mp h) id⟩
    · rw [List.mem_cons, List.mem_cons, mem_ded]
theorem nod_ded {A : Type} [DecidableEq A] : ∀ xs : List A, (ded xs).Nodup
  | [] => List.nodup_nil
  | y :: xs => by
    unfold ded
    split
    · exact nod_ded xs
    · rename_i h
      exact List.nodup_cons.mpr ⟨h, nod_ded xs⟩
theorem ded_le {A : Type} [DecidableEq A] : ∀ xs : List A, (ded xs).length ≤ xs.length
  | [] => Nat.le_refl _
  | y :: xs => by
    have := ded_le xs
    unfold ded
    split <;> simp <;> omega
theorem nod_perm {A : Type} {l m : List A} (h : l.Nodup) (g : m.Nodup) (e : ∀ x, x ∈ l ↔ x ∈ m) : l.Perm m := (List.perm_ext_iff_of_nodup h g).mpr e
theorem keys_ints : ∀ {ns : List Int} {us : List Value}, Vals (ns.map V.int) us → Keys us (ns.map Sum.inl)
  | [], us, h => by
    rw [List.map_nil] at h
    cases h
    exact .nil
  | n :: ns, us, h => by
    rw [List.map_cons] at h
    cases h with
    | cons r t =>
      obtain ⟨tk, rfl⟩ := r
      exact .cons (.inl n) tk (keys_ints t)
theorem keys_strs : ∀ {ns : List Str} {us : List Value}, Vals (ns.map V.str) us → Keys us (ns.map Sum.inr)
  | [], us, h => by
    rw [List.map_nil] at h
    cases h
    exact .nil
  | n :: ns, us, h => by
    rw [List.map_cons] at h
    cases h with
    | cons r t =>
      obtain ⟨tk, rfl⟩ := r
      exact .cons (.inr n) tk (keys_strs t)
theorem map2_ded {ss : List (List Char)} {k : Key} : k ∈ ((ded ss).map toS).map (Sum.inr : Str → Key) ↔ k ∈ (ss.map toS).map Sum.inr := by
  rw [List.mem_map, List.mem_map]
  constructor
  · rintro ⟨x, hx, e⟩
    obtain ⟨y, hy, e2⟩ := List.mem_map.mp hx
    exact ⟨x, List.mem_map.mpr ⟨y, mem_ded.mp hy, e2⟩, e⟩
  · rintro ⟨x, hx, e⟩
    obtain ⟨y, hy, e2⟩ := List.mem_map.mp hx
    exact ⟨x, List.mem_map.mpr ⟨y, mem_ded.mpr hy, e2⟩, e⟩
theorem sorted_i {ns ys : List Int} (h1 : ys.Pairwise (· ≤ ·)) (h2 : ys.Nodup) (h3 : ∀ i, i ∈ ys ↔ i ∈ ns) : ys = sortI (ded ns) :=
  sortedI_eq (nod_perm h2 (nod_ded ns) fun x => (h3 x).trans mem_ded.symm) h1
theorem nod_toS : ∀ {ss : List (List Char)}, ss.Nodup → (ss.map toS).Nodup
  | [], _ => List.nodup_nil
  | s :: ss, h => by
    obtain ⟨h1, h2⟩ := List.nodup_cons.mp h
    rw [List.map_cons]
    refine List.nodup_cons.mpr ⟨fun q => ?_, nod_toS h2⟩
    obtain ⟨x, hx, e⟩ := List.mem_map.mp q
    exact h1 (toS_inj e ▸ hx)
theorem sorted_s {ss : List (List Char)} {ys : List Str} (h1 : sortedS ys = true) (h2 : ys.Nodup) (h3 : ∀ i, i ∈ ys ↔ i ∈ ss.map toS) : ys = (sortS (ded ss)).map toS := by
  refine sorted_eq (nod_perm h2 (nod_toS (nod_ded ss)) fun x => (h3 x).trans ?_) h1
  rw [List.mem_map, List.mem_map]
  exact ⟨fun ⟨y, hy, e⟩ => ⟨y, mem_ded.mpr hy, e⟩, fun ⟨y, hy, e⟩ => ⟨y, mem_ded.mp hy, e⟩⟩
section
variable {X : Cx}
theorem setM_len {w : World} {h : Heap} {a : Addr} {ks : List Key} {n : Nat} (R : SetM w h a (inK ks) n) {l : List Key} (nd : l.Nodup) (e : ∀ k, k ∈ l ↔ k ∈ ks) : n = l.length := by
  obtain ⟨o, es, ep, t, _, _, _, _, nd2, hm, _, _, hn, _⟩ := R
  have h1 := nod_len nd2 fun k hk => (e k).mpr (inK_iff.mp ((hm k).mpr hk))
  have h2 := nod_len nd fun k hk => (hm k).mp (inK_iff.mpr ((e k).mp hk))
  have h3 : es.toList.length = es.size := Array.length_toList
  rw [List.length_map] at h1 h2
  omega
theorem nod_inl {ns : List Int} (h : ns.Nodup) : (ns.map (Sum.inl : Int → Key)).Nodup := by
  induction ns with
  | nil => exact List.nodup_nil
  | cons x ns ih =>
    obtain ⟨h1, h2⟩ := List.nodup_cons.mp h
    rw [List.map_cons]
    refine List.nodup_cons.mpr ⟨fun q => ?_, ih h2⟩
    obtain ⟨y, hy, e⟩ := List.mem_map.mp q
    cases e
    exact h1 hy
theorem nod_inr {ns : List Str} (h : ns.Nodup) : (ns.map (Sum.inr : Str → Key)).Nodup := by
  induction ns with
  | nil => exact List.nodup_nil
  | cons x ns ih =>
    obtain ⟨h1, h2⟩ := List.nodup_cons.mp h
    rw [List.map_cons]
    refine List.nodup_cons.mpr ⟨fun q => ?_, ih h2⟩
    obtain ⟨y, hy, e⟩ := List.mem_map.mp q
    cases e
    exact h1 hy
/-- a new list that a call has laid -/
theorem laid_lst {pins : List (Addr × Obj)} {σ : L2.St} {H : Hp} {s s' : Shared} {p c : Nat} {out : Array Value} {vs : List V} {Q : VK} (I : Inv X pins σ H s) (k : ∀ b o, s.heap.get? b = some o → s'.heap.get? b = some o) (g : s'.gens = s.gens) (o : s'.os = s.os) (hp : s.heap.objs.size ≤ p) (hg : s'.heap.get? p = some (seqObj "list" out c)) (hz : vs.length ≤ sizeLine) (hv : Vals vs out.toList) (q : H p = none → Q (.ref p) (upd H p (.lst vs))) : EP X pins σ Q (.ref p) s' := by
  have hn : H p = none := I.hok.fresh hp
  have J : Inv X pins σ (upd H p (.lst vs)) { s with heap := s'.heap, gens := s'.gens, drawn := s'.drawn, toks := s'.toks } := I.call (ch := []) (Un.laid k hp hn) (I.hok.laid k hp ⟨hz, out.toList, c, hv, hg⟩) (by rw [g]; exact I.bare) (fun _ z => nomatch z)
  have e : s' = { s with heap := s'.heap, gens := s'.gens, drawn := s'.drawn, toks := s'.toks } := by
    cases s'
    cases s
    cases o
    rfl
  rw [e]
  exact ⟨.ref p, _, J, rfl, q hn⟩
theorem call_set_any {pins : List (Addr × Obj)} {σ : L2.St} {H : Hp} {s : Shared} {a : Addr} {xs : List V} {ks : List Key} {E : Value → Shared → Prop} {Q : Value → Shared → Prop} (hc : X.calm = true) (I : Inv X pins σ H s) (hq : SqL X.K H a xs ∨ SqT X.K H a xs) (hk : ∀ us, Vals xs us → Keys us ks) (hb : ks.length < 4000)
    (h : ∀ (h' : Heap) (tk c : Nat), SetM X.w h' s.heap.objs.size (inK ks) c → (∀ b o, s.heap.get? b = some o → h'.get? b = some o) → Q (.ref s.heap.objs.size) { s with heap := h', toks := tk }) : wpAny (model X.prog X.w) X.A (call (.type "set") [.ref a]) Q E s := by
  have hb2 : ks.length + 1 < scanBound := by unfold scanBound; omega
  rcases hq with hq | hq
  · obtain ⟨its, r, pl, _⟩ := I.list hq
    exact call_set_lst ks (I.ok.hd hc) pl.isList (hk _ r) hb2 fun h' tk c R _ k => h h' tk c R k
  · obtain ⟨its, r, pl, _⟩ := I.tuple hq
    exact call_set_tup ks (I.ok.hd hc) (show s.heap.IsTuple a its.toArray from pl) (hk _ r) hb2 fun h' tk c R _ k => h h' tk c R k
theorem se_set {a : Expr} {fa : Env → Store → R (D × Store)} {m srt : Bool} {f : Str} {p p2 q0 pos : Pos} (hc : X.calm = true) (hf : f = if srt then "sorted" else "len") (hg : Gl X f) (hm : X.mg f = none) (hg2 : Gl X "set") (hm2 : X.mg "set" = none) (ha : PE X a (tEv X.kw fa)) (na : starEach [a] X.env = (false, eval a X.env) :: starEach [] X.env) :
    PE X (.Call (.Name f p) [.Call (.Name "set" p2) [a] [] q0] [] pos) (tEv X.kw fun rho S => (fa rho S).bind fun p => setD m srt p.1 p.2) := by
  refine ⟨fun pins s σ H Q I ⟨al, U, S, rho, d, S', sr, er, e, q⟩ => ?_⟩
  obtain ⟨⟨d1, S1⟩, e1, e⟩ := R.bind_ok e
  have go : ∀ {Q1 : Value → Shared → Prop}, (∀ (v : Value) s1, (∃ x H1 al1, Inv X pins σ H1 s1 ∧ RelV x v ∧ Nxt al S.length H al1 S1.length H1 ∧ SR X.kw al1 U S1 H1 ∧ Rep X.kw al1 S1.length U H1 d1 x) → wpAny (model X.prog X.w) X.A (call (.type "set") [v]) Q1 X.xe s1) → wpAny (model X.prog X.w) X.A (eval (.Call (.Name "set" p2) [a] [] q0) X.env) Q1 X.xe s := by
    intro Q1 hh
    refine Call_ (ld_blt I hg2 hm2 PyProof.Rows.boot_set ?_)
    refine PyProof.Rows.callWith_type1 (PyProof.Rows.args_cons (thn (ha.run pins s σ H (fun x H1 => ∃ al1, Nxt al S.length H al1 S1.length H1 ∧ SR X.kw al1 U S1 H1 ∧ Rep X.kw al1 S1.length U H1 d1 x) I ⟨al, U, S, rho, d1, S1, sr, er, e1, fun v1 H1 al1 n1 sr1 r1 => ⟨al1, n1, sr1, r1⟩⟩) fun v s1 ⟨x, H1, I1, r1, al1, n1, sr1, rr⟩ => PyProof.Rows.args_nil ?_) na) na rfl
    exact hh v s1 ⟨x, H1, al1, I1, r1, n1, sr1, rr⟩
  unfold setD at e
  simp only at e
  split at e
  · rename_i ds ei
    split at e
    · rename_i ss es
      split at e
      · rename_i hl
        have sets : ∀ {Q1 : Value → Shared → Prop} (v : Value) s1, (∃ x H1 al1, Inv X pins σ H1 s1 ∧ RelV x v ∧ Nxt al S.length H al1 S1.length H1 ∧ SR X.kw al1 U S1 H1 ∧ Rep X.kw al1 S1.length U H1 d1 x) →
            (∀ (H1 : Hp) al1 (h' : Heap) (tk c : Nat), SetM X.w h' s1.heap.objs.size (inK ((ss.map toS).map Sum.inr)) c → Inv X pins σ H1 { s1 with heap := h', toks := tk } → Nxt al S.length H al1 S1.length H1 → SR X.kw al1 U S1 H1 → (∀ s ∈ ss, s.length ≤ sizeLine) → Q1 (.ref s1.heap.objs.size) { s1 with heap := h', toks := tk }) → wpAny (model X.prog X.w) X.A (call (.type "set") [v]) Q1 X.xe s1 := by
          intro Q1 v s1 ⟨x, H1, al1, I1, rx, n1, sr1, rr⟩ fin
          obtain ⟨pa, vs, rfl, hq, l, rs⟩ := items_rep sr1 rr ei
          obtain ⟨ev, el, hsz⟩ := allStr_rep rs es
          cases rx
          refine call_set_any hc I1 hq (ks := (ss.map toS).map Sum.inr) (fun us r => ?_) (by simpa using hl) fun h' tk c R k => fin H1 al1 h' tk c R (I1.kept k) n1 sr1 hsz
          rw [ev] at r
          have : (ss.map fun s => V.str (toS s)) = (ss.map toS).map V.str := by rw [List.map_map]; rfl
          rw [this] at r
          exact keys_strs r
        cases srt with
        | true =>
          rw [if_pos rfl] at e
          have hf : f = "sorted" := hf
          subst hf
          refine Call_ (ld_blt I hg hm boot_sorted ?_)
          refine PyProof.Rows.callWith_builtin1 (PyProof.Rows.args_cons (go fun v s1 hh => sets v s1 hh fun H1 al1 h' tk c R I2 n1 sr1 hsz => PyProof.Rows.args_nil ?_) rfl) rfl rfl
          have ec := setM_len R (l := ((ded ss).map toS).map Sum.inr) (nod_inr (nod_toS (nod_ded ss))) fun k => by
            exact map2_ded
          rw [List.length_map, List.length_map] at ec
          have hd := ded_le ss
          refine sorted_setS R (I2.ok.hd hc) (by omega) (fun k hk => ?_) fun s' p out c2 ns k g o hp hgt hi hs nd hm3 hn => ?_
          · obtain ⟨i, _, e⟩ := List.mem_map.mp (inK_iff.mp hk)
            exact ⟨i, e.symm⟩
          · have ens := sorted_s (ss := ss) hs nd fun i => by
              rw [hm3, inK_iff, List.mem_map]
              exact ⟨fun ⟨j, hj, e⟩ => by cases e; exact hj, fun h => ⟨i, h, rfl⟩⟩
            subst ens
            have hl3 : ∀ x ∈ sortS (ded ss), x.length ≤ sizeLine := fun x hx => hsz x (mem_ded.mp ((sortS_perm _).mem_iff.mp hx))
            refine laid_lst I2 k g o hp hgt (vs := ((sortS (ded ss)).map toS).map V.str) (by rw [List.length_map, List.length_map, sortS_length, sizeLine_eq]; omega) (vals_of_strs hi) fun hn => ?_
            rw [List.map_map]
            exact new_lit sr1 e (by rw [List.length_map, sortS_length, sizeLine_eq]; omega) (strs_rep _ hl3) (fun v H2 al2 n2 sr2 r2 => q v H2 al2 (sr1.trans n1 n2) sr2 r2) _ hn
        | false =>
          rw [if_neg Bool.false_ne_true] at e
          cases e
          have hf : f = "len" := hf
          subst hf
          refine Call_ (ld_blt I hg hm PySem.boot_len ?_)
          refine PyProof.Rows.callWith_builtin1 (PyProof.Rows.args_cons (go fun v s1 hh => sets v s1 hh fun H1 al1 h' tk c R I2 n1 sr1 hsz => PyProof.Rows.args_nil ?_) rfl) rfl rfl
          have ec := setM_len R (l := ((ded ss).map toS).map Sum.inr) (nod_inr (nod_toS (nod_ded ss))) fun k => by
            exact map2_ded
          rw [List.length_map, List.length_map] at ec
          obtain ⟨o, es, ep, t, ho, hex, hd, _, _, _, hb, hf2, hn, _⟩ := R
          refine call_len_set ho hex hd hf2 (by unfold scanBound at hb; omega) ⟨.int (ded ss).length, H1, I2.tok _, ⟨_, by rw [hn, ec]⟩, q _ _ al1 n1 sr1 (by simp only [Rep])⟩
      · cases e
    · split at e
      · rename_i ns es
        split at e
        · rename_i hl
          have sets : ∀ {Q1 : Value → Shared → Prop} (v : Value) s1, (∃ x H1 al1, Inv X pins σ H1 s1 ∧ RelV x v ∧ Nxt al S.length H al1 S1.length H1 ∧ SR X.kw al1 U S1 H1 ∧ Rep X.kw al1 S1.length U H1 d1 x) →
              (∀ (H1 : Hp) al1 (h' : Heap) (tk c : Nat), SetM X.w h' s1.heap.objs.size (inK (ns.map Sum.inl)) c → Inv X pins σ H1 { s1 with heap := h', toks := tk } → Nxt al S.length H al1 S1.length H1 → SR X.kw al1 U S1 H1 → Q1 (.ref s1.heap.objs.size) { s1 with heap := h', toks := tk }) → wpAny (model X.prog X.w) X.A (call (.type "set") [v]) Q1 X.xe s1 := by
            intro Q1 v s1 ⟨x, H1, al1, I1, rx, n1, sr1, rr⟩ fin
            obtain ⟨pa, vs, rfl, hq, l, rs⟩ := items_rep sr1 rr ei
            obtain ⟨ev, el⟩ := allInt_rep rs es
            cases rx
            refine call_set_any hc I1 hq (ks := ns.map Sum.inl) (fun us r => ?_) (by simpa using hl) fun h' tk c R k => fin H1 al1 h' tk c R (I1.kept k) n1 sr1
            rw [ev] at r
            exact keys_ints r
          cases srt with
          | true =>
            rw [if_pos rfl] at e
            split at e
            · rename_i h64
              have hf : f = "sorted" := hf
              subst hf
              refine Call_ (ld_blt I hg hm boot_sorted ?_)
              refine PyProof.Rows.callWith_builtin1 (PyProof.Rows.args_cons (go fun v s1 hh => sets v s1 hh fun H1 al1 h' tk c R I2 n1 sr1 => PyProof.Rows.args_nil ?_) rfl) rfl rfl
              have ec := setM_len R (l := (ded ns).map Sum.inl) (nod_inl (nod_ded ns)) fun k => by
                simp only [List.mem_map, mem_ded]
              rw [List.length_map] at ec
              have hd := ded_le ns
              refine sorted_setI R (I2.ok.hd hc) (by omega) (fun k hk => ?_) fun s' p out c2 ys k g o hp hgt hi hs nd hm3 hn => ?_
              · obtain ⟨i, _, e⟩ := List.mem_map.mp (inK_iff.mp hk)
                exact ⟨i, e.symm⟩
              · have ens := sorted_i (ns := ns) hs nd fun i => by
                  rw [hm3, inK_iff, List.mem_map]
                  exact ⟨fun ⟨j, hj, e⟩ => by cases e; exact hj, fun h => ⟨i, h, rfl⟩⟩
                subst ens
                refine laid_lst I2 k g o hp hgt (vs := (sortI (ded ns)).map V.int) (by rw [List.length_map, sortI_length, sizeLine_eq]; omega) (vals_of_ints hi) fun hn => ?_
                exact new_lit sr1 e (by rw [List.length_map, sortI_length, sizeLine_eq]; omega) (ints_rep _) (fun v H2 al2 n2 sr2 r2 => q v H2 al2 (sr1.trans n1 n2) sr2 r2) _ hn
            · cases e
          | false =>
            rw [if_neg Bool.false_ne_true] at e
            cases e
            have hf : f = "len" := hf
            subst hf
            refine Call_ (ld_blt I hg hm PySem.boot_len ?_)
            refine PyProof.Rows.callWith_builtin1 (PyProof.Rows.args_cons (go fun v s1 hh => sets v s1 hh fun H1 al1 h' tk c R I2 n1 sr1 => PyProof.Rows.args_nil ?_) rfl) rfl rfl
            have ec := setM_len R (l := (ded ns).map Sum.inl) (nod_inl (nod_ded ns)) fun k => by
              simp only [List.mem_map, mem_ded]
            rw [List.length_map] at ec
            obtain ⟨o, es, ep, t, ho, hex, hd, _, _, _, hb, hf2, hn, _⟩ := R
            refine call_len_set ho hex hd hf2 (by unfold scanBound at hb; omega) ⟨.int (ded ns).length, H1, I2.tok _, ⟨_, by rw [hn, ec]⟩, q _ _ al1 n1 sr1 (by simp only [Rep])⟩
        · cases e
      · cases e
  · cases e
end
end Z

set_option Elab.async false
set_option linter.all false
set_option maxRecDepth 100000
set_option maxHeartbeats 4000000
/-! ZipA: zip of two sequences, each a list or a tuple. -/
namespace Z
open PySem L2 PySem.Spec PyProof.Rows
open PySem.Sem (wp)
/-- an iterator over a list (false) or a tuple (true) -/
def KI : Bool → Heap → Addr → Addr → Nat → Prop
  | false, h, a, l, i => h.IsListIter a l i
  | true, h, a, l, i => h.IsTupleIter a l i
def KO : Bool → Heap → Addr → Array Value → Prop
  | false, h, l, xs => h.IsList l xs
  | true, h, l, xs => h.IsTuple l xs
def KN : Bool → String
  | false => "list_iterator"
  | true => "tuple_iterator"
theorem KI.ext {t : Bool} {h h' : Heap} {a b l : Addr} {i : Nat} (x : KI t h a l i) (e : Heap.ExtBut b h h') (n : a ≠ b) : KI t h' a l i := by
  cases t with
  | false => exact Heap.IsListIter.extBut x e n
  | true => exact Heap.IsTupleIter.extBut x e n
theorem KO.ext {t : Bool} {h h' : Heap} {b l : Addr} {xs : Array Value} (x : KO t h l xs) (e : Heap.ExtBut b h h') (n : l ≠ b) : KO t h' l xs := by
  cases t with
  | false => exact Heap.IsList.extBut x e n
  | true => exact Heap.IsTuple.extBut x e n
theorem KI.mv {t : Bool} {h h' : Heap} {a l : Addr} {i : Nat} (x : KI t h a l i) (e : ∀ o, h.get? a = some o → h'.get? a = some o) : KI t h' a l i := by
  cases t with
  | false => exact Heap.IsListIter.at x e
  | true => exact Heap.IsTupleIter.at x e
theorem KI.ob {t : Bool} {h : Heap} {a l : Addr} {i : Nat} (x : KI t h a l i) : ∃ o, h.get? a = some o ∧ ∀ u, o.data ≠ .cell u := by
  cases t with
  | false => obtain ⟨o, e, _, d⟩ := x; exact ⟨o, e, fun v q => by rw [d] at q; cases q⟩
  | true => obtain ⟨o, e, _, d⟩ := x; exact ⟨o, e, fun v q => by rw [d] at q; cases q⟩
theorem KI.lt {t : Bool} {h : Heap} {a l : Addr} {i : Nat} (x : KI t h a l i) : a < h.objs.size := let ⟨_, e, _⟩ := x.ob; Heap.lt_size e
theorem KO.lt {t : Bool} {h : Heap} {l : Addr} {xs : Array Value} (x : KO t h l xs) : l < h.objs.size := by
  cases t with
  | false => exact let ⟨_, ho, _⟩ := x; Heap.lt_size ho
  | true => exact let ⟨_, ho, _⟩ := x; Heap.lt_size ho
section
variable {prog : Program} {w : World} {A : Around} {E : Value → Shared → Prop} {s : Shared}
theorem ki_item {t : Bool} {it l : Addr} {i : Nat} {items : Array Value} {x : Value} {Q : Value → Shared → Prop} (a : KI t s.heap it l i) (b : KO t s.heap l items) (hx : items[i]? = some x)
    (hQ : ∀ h', KI t h' it l (i + 1) → Heap.SameBut it s.heap h' → Q x { s with heap := h' }) : wpAny (model prog w) A (Builtin.SmallTypes.nextOf (.ref it)) Q E s := by
  cases t with
  | false => exact wpAny_nextOf_list_item a b hx hQ
  | true => exact RZ.nextOf_tuple_item a b hx hQ
theorem ki_end {t : Bool} {it l : Addr} {i : Nat} {items : Array Value} {Q : Value → Shared → Prop} (hh : A.handled = none) (a : KI t s.heap it l i) (b : KO t s.heap l items) (hx : items[i]? = none)
    (hE : ∀ h' e, Heap.ExtBut it s.heap h' → (∃ o, h'.get? e = some o ∧ o.cls = .type "StopIteration") → E (.ref e) { s with heap := h' }) : wpAny (model prog w) A (Builtin.SmallTypes.nextOf (.ref it)) Q E s := by
  cases t with
  | false => exact wpAny_nextOf_list_end hh a b hx hE
  | true => exact RZ.nextOf_tuple_end hh a b hx hE
/-- what of the heap stays: all but the zip, its pair, both iterators -/
abbrev Stay (z TO i1 i2 : Addr) (h h' : Heap) : Prop := ∀ c o, c ≠ z → c ≠ TO → c ≠ i1 → c ≠ i2 → h.get? c = some o → h'.get? c = some o
theorem za_item {t t' : Bool} {z TI TO i1 i2 l1 l2 : Addr} {k1 k2 : Nat} {xs ys : Array Value} {x y a b : Value} {Q : Value → Shared → Prop} (D : ZipApart z TI TO i1 i2 l1 l2)
    (hz : IsZip s.heap z TI TO .none) (pI : IsPair s.heap TI (.ref i1) (.ref i2)) (pO : IsPair s.heap TO a b) (g1 : KI t s.heap i1 l1 k1) (g2 : KI t' s.heap i2 l2 k2) (o1 : KO t s.heap l1 xs) (o2 : KO t' s.heap l2 ys) (ex : xs[k1]? = some x) (ey : ys[k2]? = some y)
    (hQ : ∀ h', IsZip h' z TI TO (rawInt s.heap.objs.size) → IsPair h' TO x y → KI t h' i1 l1 (k1 + 1) → KI t' h' i2 l2 (k2 + 1) → IsPair h' s.heap.objs.size x y → h'.objs.size = s.heap.objs.size + 1 → Stay z TO i1 i2 s.heap h' → Q (.ref s.heap.objs.size) { s with heap := h' }) :
    wpAny (model prog w) A (Builtin.«zip.__next__» ⟨[.ref z], []⟩) (fun fin s' => ∃ v, fin = .done (.ret v) ∧ Q v s') E s := by
  (show wpAny _ _ (field (.ref z) 2 >>= _) _ _ _); refine wpAny_bind (wpAny_field hz rfl (x := .bool false) rfl ?_)
  (show wpAny _ _ (field (.ref z) 3 >>= _) _ _ _); refine wpAny_bind (wpAny_field hz rfl (x := .ref TI) rfl ?_)
  refine wpAny_bind (wpAny_seqItems pI rfl ?_)
  (show wpAny _ _ (Builtin.SmallTypes.ownedTupleIsFree (.ref z) >>= _) _ _ _); refine wpAny_bind ?_
  (unfold Builtin.SmallTypes.ownedTupleIsFree); refine wpAny_bind (wpAny_field hz rfl (x := .none) rfl (wpAny_pure ?_))
  rw [if_pos rfl]
  refine wpAny_bind (wpAny_rule ?_)
  (refine wpAny_bind (wpAny_field hz rfl (x := .ref TO) rfl ?_)); refine wpAny_bind (wpAny_setField_rec hz (by simp) fun h₁ hz₁ s₁ => ?_)
  have hz₁ : IsZip h₁ z TI TO .ellipsis := hz₁
  refine wpAny_bind ?_
  simp only [List.zipIdx_cons, List.zipIdx_nil, List.forIn_nil, List.forIn_cons]
  (refine wpAny_bind (wpAny_bind (wpAny_onRaise ?_))); show wpAny _ _ (Builtin.SmallTypes.nextOf (.ref i1) >>= _) _ _ _
  refine wpAny_bind (ki_item (g1.ext s₁.extBut D.i1z) (o1.ext s₁.extBut D.l1z) ex fun h₂ g1₂ s₂ => wpAny_pure ?_)
  have pO₂ : IsPair h₂ TO a b := s₂.extBut _ _ D.TOi1 (s₁.extBut _ _ D.TOz pO)
  refine wpAny_bind (wpAny_seqItems pO₂ rfl ?_)
  refine wpAny_bind (wpAny_updateSeq_pair pO₂ fun h₃ pO₃ s₃ => ?_)
  have pO₃ : IsPair h₃ TO x b := pO₃
  refine wpAny_bind (wpAny_letGo (wpAny_pure ?_))
  (refine wpAny_bind (wpAny_bind (wpAny_onRaise ?_))); show wpAny _ _ (Builtin.SmallTypes.nextOf (.ref i2) >>= _) _ _ _
  refine wpAny_bind (ki_item (((g2.ext s₁.extBut D.i2z).ext s₂.extBut D.i12.symm).ext s₃.extBut D.TOi2.symm) (((o2.ext s₁.extBut D.l2z).ext s₂.extBut D.l2i1).ext s₃.extBut D.l2TO) ey fun h₄ g2₄ s₄ => wpAny_pure ?_)
  have pO₄ : IsPair h₄ TO x b := s₄.extBut _ _ D.TOi2 pO₃
  refine wpAny_bind (wpAny_seqItems pO₄ rfl ?_)
  refine wpAny_bind (wpAny_updateSeq_pair pO₄ fun h₅ pO₅ s₅ => ?_)
  have pO₅ : IsPair h₅ TO x y := pO₅
  refine wpAny_bind (wpAny_letGo (wpAny_pure (wpAny_pure ?_)))
  (refine wpAny_bind (wpAny_seqItems pO₅ rfl ?_)); refine wpAny_bind (wpAny_newTuple ?_)
  have es : h₅.objs.size = s.heap.objs.size := by rw [s₅.1, s₄.1, s₃.1, s₂.1, s₁.1]
  have hz₅ : IsZip h₅ z TI TO .ellipsis := s₅.extBut _ _ D.TOz.symm (s₄.extBut _ _ D.i2z.symm (s₃.extBut _ _ D.TOz.symm (s₂.extBut _ _ D.i1z.symm hz₁)))
  have k₅ : Stay z TO i1 i2 s.heap h₅ := fun c o c1 c2 c3 c4 e => s₅.extBut _ _ c2 (s₄.extBut _ _ c4 (s₃.extBut _ _ c2 (s₂.extBut _ _ c3 (s₁.extBut _ _ c1 e))))
  have g1₅ : KI t h₅ i1 l1 (k1 + 1) := ((g1₂.ext s₃.extBut D.TOi1.symm).ext s₄.extBut D.i12).ext s₅.extBut D.TOi1.symm
  have g2₅ : KI t' h₅ i2 l2 (k2 + 1) := g2₄.ext s₅.extBut D.TOi2.symm
  have zl : z < h₅.objs.size := Heap.lt_size hz₅
  (show wpAny _ _ (Builtin.SmallTypes.ownedTupleHandOut (.ref z) (.ref h₅.objs.size) >>= _) _ _ _); refine wpAny_bind ?_
  unfold Builtin.SmallTypes.ownedTupleHandOut
  have hz₆ : IsZip (h₅.push { cls := .type "tuple", data := .seq #[x, y] }) z TI TO .ellipsis := Heap.get?_push_of_some _ hz₅
  refine wpAny_bind (wpAny_setField_rec hz₆ (by simp) fun h₇ hz₇ s₇ => ?_)
  have hz₇ : IsZip h₇ z TI TO (rawInt h₅.objs.size) := hz₇
  refine wpAny_setField_rec hz₇ (by simp) fun h₈ hz₈ s₈ => ?_
  have hz₈ : IsZip h₈ z TI TO (rawInt h₅.objs.size) := hz₈
  have up : ∀ c o, c ≠ z → h₅.get? c = some o → h₈.get? c = some o := fun c o c1 e => s₈.extBut _ _ c1 (s₇.extBut _ _ c1 (Heap.get?_push_of_some _ e))
  have pT₈ : IsPair h₈ h₅.objs.size x y := s₈.extBut _ _ (Nat.ne_of_gt zl) (s₇.extBut _ _ (Nat.ne_of_gt zl) (Heap.get?_push_size _ rfl))
  have z8 : h₈.objs.size = h₅.objs.size + 1 := by rw [s₈.1, s₇.1, Heap.size_push]
  rw [es] at hz₈ pT₈ z8
  refine wpAny_pure ⟨_, rfl, ?_⟩
  show Q (.ref h₅.objs.size) _
  rw [es]
  exact hQ h₈ hz₈ (up _ _ D.TOz pO₅) (g1₅.mv fun o e => up _ o D.i1z e) (g2₅.mv fun o e => up _ o D.i2z e) pT₈ z8 fun c o c1 c2 c3 c4 e => up c o c1 (k₅ c o c1 c2 c3 c4 e)
theorem za_end {t t' : Bool} {z TI TO i1 i2 l1 l2 : Addr} {k1 k2 : Nat} {xs ys : Array Value} {a b : Value} {Q : Fin → Shared → Prop} (hh : A.handled = none) (D : ZipApart z TI TO i1 i2 l1 l2)
    (hz : IsZip s.heap z TI TO .none) (pI : IsPair s.heap TI (.ref i1) (.ref i2)) (pO : IsPair s.heap TO a b) (g1 : KI t s.heap i1 l1 k1) (g2 : KI t' s.heap i2 l2 k2) (o1 : KO t s.heap l1 xs) (o2 : KO t' s.heap l2 ys) (he : xs[k1]? = none ∨ ys[k2]? = none)
    (hE : ∀ h' e, Stay z TO i1 i2 s.heap h' → (∃ o, h'.get? e = some o ∧ o.cls = .type "StopIteration") → E (.ref e) { s with heap := h' }) :
    wpAny (model prog w) A (Builtin.«zip.__next__» ⟨[.ref z], []⟩) Q E s := by
  (show wpAny _ _ (field (.ref z) 2 >>= _) _ _ _); refine wpAny_bind (wpAny_field hz rfl (x := .bool false) rfl ?_)
  (show wpAny _ _ (field (.ref z) 3 >>= _) _ _ _); refine wpAny_bind (wpAny_field hz rfl (x := .ref TI) rfl ?_)
  refine wpAny_bind (wpAny_seqItems pI rfl ?_)
  (show wpAny _ _ (Builtin.SmallTypes.ownedTupleIsFree (.ref z) >>= _) _ _ _); refine wpAny_bind ?_
  (unfold Builtin.SmallTypes.ownedTupleIsFree); refine wpAny_bind (wpAny_field hz rfl (x := .none) rfl (wpAny_pure ?_))
  rw [if_pos rfl]
  refine wpAny_bind (wpAny_rule ?_)
  (refine wpAny_bind (wpAny_field hz rfl (x := .ref TO) rfl ?_)); refine wpAny_bind (wpAny_setField_rec hz (by simp) fun h₁ hz₁ s₁ => ?_)
  have hz₁ : IsZip h₁ z TI TO .ellipsis := hz₁
  refine wpAny_bind ?_
  simp only [List.zipIdx_cons, List.zipIdx_nil, List.forIn_nil, List.forIn_cons]
  (refine wpAny_bind (wpAny_bind (wpAny_onRaise ?_))); show wpAny _ _ (Builtin.SmallTypes.nextOf (.ref i1) >>= _) _ _ _
  cases ex : xs[k1]? with
  | none =>
    refine wpAny_bind (ki_end hh (g1.ext s₁.extBut D.i1z) (o1.ext s₁.extBut D.l1z) ex fun h₂ e s₂ he => ?_)
    obtain ⟨oe, qe, ce⟩ := he
    have hz₂ : IsZip h₂ z TI TO .ellipsis := s₂ _ _ D.i1z.symm hz₁
    have ez : e ≠ z := fun x => by subst x; rw [hz₂] at qe; cases qe; simp at ce
    exact wpAny_setField_rec hz₂ (by simp) fun h₃ _ s₃ => hE h₃ e (fun c o c1 _ c3 _ x => s₃.extBut _ _ c1 (s₂ _ _ c3 (s₁.extBut _ _ c1 x))) ⟨oe, s₃.extBut _ _ ez qe, ce⟩
  | some x =>
    have ey : ys[k2]? = none := by
      rcases he with h | h
      · rw [ex] at h; cases h
      · exact h
    refine wpAny_bind (ki_item (g1.ext s₁.extBut D.i1z) (o1.ext s₁.extBut D.l1z) ex fun h₂ g1₂ s₂ => wpAny_pure ?_)
    have pO₂ : IsPair h₂ TO a b := s₂.extBut _ _ D.TOi1 (s₁.extBut _ _ D.TOz pO)
    refine wpAny_bind (wpAny_seqItems pO₂ rfl ?_)
    refine wpAny_bind (wpAny_updateSeq_pair pO₂ fun h₃ pO₃ s₃ => ?_)
    refine wpAny_bind (wpAny_letGo (wpAny_pure ?_))
    (refine wpAny_bind (wpAny_bind (wpAny_onRaise ?_))); show wpAny _ _ (Builtin.SmallTypes.nextOf (.ref i2) >>= _) _ _ _
    refine wpAny_bind (ki_end hh (((g2.ext s₁.extBut D.i2z).ext s₂.extBut D.i12.symm).ext s₃.extBut D.TOi2.symm) (((o2.ext s₁.extBut D.l2z).ext s₂.extBut D.l2i1).ext s₃.extBut D.l2TO) ey fun h₄ e s₄ he => ?_)
    obtain ⟨oe, qe, ce⟩ := he
    have hz₄ : IsZip h₄ z TI TO .ellipsis := s₄ _ _ D.i2z.symm (s₃.extBut _ _ D.TOz.symm (s₂.extBut _ _ D.i1z.symm hz₁))
    have ez : e ≠ z := fun x => by subst x; rw [hz₄] at qe; cases qe; simp at ce
    exact wpAny_setField_rec hz₄ (by simp) fun h₅ _ s₅ => hE h₅ e (fun c o c1 c2 c3 c4 x => s₅.extBut _ _ c1 (s₄ _ _ c4 (s₃.extBut _ _ c2 (s₂.extBut _ _ c3 (s₁.extBut _ _ c1 x))))) ⟨oe, s₅.extBut _ _ ez qe, ce⟩
theorem za_next {t t' : Bool} {z TI TO i1 i2 l1 l2 : Addr} {k1 k2 : Nat} {xs ys : Array Value} {x y a b : Value} {Q : Option Value → Shared → Prop} (D : ZipApart z TI TO i1 i2 l1 l2)
    (hz : IsZip s.heap z TI TO .none) (pI : IsPair s.heap TI (.ref i1) (.ref i2)) (pO : IsPair s.heap TO a b) (g1 : KI t s.heap i1 l1 k1) (g2 : KI t' s.heap i2 l2 k2) (o1 : KO t s.heap l1 xs) (o2 : KO t' s.heap l2 ys) (ex : xs[k1]? = some x) (ey : ys[k2]? = some y)
    (hQ : ∀ h', IsZip h' z TI TO (rawInt s.heap.objs.size) → IsPair h' TO x y → KI t h' i1 l1 (k1 + 1) → KI t' h' i2 l2 (k2 + 1) → IsPair h' s.heap.objs.size x y → h'.objs.size = s.heap.objs.size + 1 → Stay z TO i1 i2 s.heap h' → Q (some (.ref s.heap.objs.size)) { s with heap := h' }) :
    wpAny (model prog w) A (pyNext (.ref z)) Q E s := by
  have T : s.TypeIs (.ref z) "zip" := ⟨_, hz, rfl⟩
  unfold pyNext
  exact wpAny_bind (wpAny_attempt (wpAny_callSpecial?_slot (name := Str.ofString "__next__") T F.slot_zip_next (wpAny_call_entry F.slot_zip_next T F.entry_zip_next (za_item D hz pI pO g1 g2 o1 o2 ex ey fun h' a1 a2 a3 a4 a5 a6 a7 => wpAny_pure (hQ h' a1 a2 a3 a4 a5 a6 a7)) (F.args_zip_next_1 _))))
theorem za_stop {t t' : Bool} {z TI TO i1 i2 l1 l2 : Addr} {k1 k2 : Nat} {xs ys : Array Value} {a b : Value} {Q : Option Value → Shared → Prop} (hh : A.handled = none) (D : ZipApart z TI TO i1 i2 l1 l2)
    (hz : IsZip s.heap z TI TO .none) (pI : IsPair s.heap TI (.ref i1) (.ref i2)) (pO : IsPair s.heap TO a b) (g1 : KI t s.heap i1 l1 k1) (g2 : KI t' s.heap i2 l2 k2) (o1 : KO t s.heap l1 xs) (o2 : KO t' s.heap l2 ys) (he : xs[k1]? = none ∨ ys[k2]? = none)
    (hQ : ∀ h', Stay z TO i1 i2 s.heap h' → Q none { s with heap := h' }) : wpAny (model prog w) A (pyNext (.ref z)) Q E s := by
  have T : s.TypeIs (.ref z) "zip" := ⟨_, hz, rfl⟩
  unfold pyNext
  refine wpAny_bind (wpAny_attempt (wpAny_callSpecial?_slot (name := Str.ofString "__next__") T F.slot_zip_next (wpAny_call_entry F.slot_zip_next T F.entry_zip_next (za_end hh D hz pI pO g1 g2 o1 o2 he fun h' e hk he => ?_) (F.args_zip_next_1 _))))
  obtain ⟨o, ho, hc⟩ := he
  exact wpAny_bind (wpAny_isInstance (T := "StopIteration") (b := true) ⟨o, ho, hc⟩ isSubtype_stop (wpAny_pure (hQ _ hk)))
end
abbrev zaH1 (t : Bool) (h : Heap) (l1 : Addr) : Heap := h.push { cls := .type (KN t), data := .fields #[.ref l1, .int 0 0] }
abbrev zaH2 (t t' : Bool) (h : Heap) (l1 l2 : Addr) : Heap := (zaH1 t h l1).push { cls := .type (KN t'), data := .fields #[.ref l2, .int 0 0] }
abbrev zaH3 (t t' : Bool) (h : Heap) (l1 l2 : Addr) : Heap := (zaH2 t t' h l1 l2).push { cls := .type "tuple", data := .seq #[.ref h.objs.size, .ref (zaH1 t h l1).objs.size] }
abbrev zaH4 (t t' : Bool) (h : Heap) (l1 l2 : Addr) : Heap := (zaH3 t t' h l1 l2).push { cls := .type "tuple", data := .seq #[.none, .none] }
abbrev zaH5 (t t' : Bool) (h : Heap) (l1 l2 : Addr) : Heap := (zaH4 t t' h l1 l2).push { cls := .type "zip", data := .fields #[.none, .bool false, .bool false, .ref (zaH2 t t' h l1 l2).objs.size, .ref (zaH3 t t' h l1 l2).objs.size] }
theorem KO.push {t : Bool} {h : Heap} {l : Addr} {xs : Array Value} (x : KO t h l xs) (o : Obj) : KO t (h.push o) l xs := by
  cases t with
  | false => exact Heap.IsList.push x _
  | true => exact Heap.IsTuple.push x _
theorem meets_za (t t' : Bool) (l1 l2 : Addr) (xs ys : Array Value) :
    Meets (Builtin.«zip.__new__» ⟨[.type "zip", .ref l1, .ref l2], []⟩) (fun _ R s => KO t s.heap l1 xs ∧ KO t' s.heap l2 ys ∧ R (.ok (.ret (.ref (zaH4 t t' s.heap l1 l2).objs.size))) { s with heap := zaH5 t t' s.heap l1 l2 }) :=
  .of_wp fun prog w A R s h => by
    obtain ⟨hp, g, d, tk, os⟩ := s
    obtain ⟨a1, a2, h⟩ := h
    have hsub := PySem.sub_zip
    have b1 : KO t (Shared.heap ⟨hp, g, d, tk, os⟩) l1 xs := a1
    have b2 : KO t' (Shared.heap ⟨hp.push { cls := .type (KN t), data := .fields #[.ref l1, .int 0 0] }, g, d, tk, os⟩) l2 ys := KO.push a2 _
    cases t <;> cases t'
    · have c1 : Heap.IsList (Shared.heap ⟨hp, g, d, tk, os⟩) l1 xs := b1
      have c2 : Heap.IsList (Shared.heap ⟨hp.push { cls := .type "list_iterator", data := .fields #[.ref l1, .int 0 0] }, g, d, tk, os⟩) l2 ys := b2
      wp_walk using wpAny_pyIter_list c1, wpAny_pyIter_list c2
      exact ⟨_, rfl, h⟩
    · have c1 : Heap.IsList (Shared.heap ⟨hp, g, d, tk, os⟩) l1 xs := b1
      have c2 : Heap.IsTuple (Shared.heap ⟨hp.push { cls := .type "list_iterator", data := .fields #[.ref l1, .int 0 0] }, g, d, tk, os⟩) l2 ys := b2
      wp_walk using wpAny_pyIter_list c1, wpAny_pyIter_tuple c2
      exact ⟨_, rfl, h⟩
    · have c1 : Heap.IsTuple (Shared.heap ⟨hp, g, d, tk, os⟩) l1 xs := b1
      have c2 : Heap.IsList (Shared.heap ⟨hp.push { cls := .type "tuple_iterator", data := .fields #[.ref l1, .int 0 0] }, g, d, tk, os⟩) l2 ys := b2
      wp_walk using wpAny_pyIter_tuple c1, wpAny_pyIter_list c2
      exact ⟨_, rfl, h⟩
    · have c1 : Heap.IsTuple (Shared.heap ⟨hp, g, d, tk, os⟩) l1 xs := b1
      have c2 : Heap.IsTuple (Shared.heap ⟨hp.push { cls := .type "tuple_iterator", data := .fields #[.ref l1, .int 0 0] }, g, d, tk, os⟩) l2 ys := b2
      wp_walk using wpAny_pyIter_tuple c1, wpAny_pyIter_tuple c2
      exact ⟨_, rfl, h⟩
theorem ki_new {t : Bool} {h : Heap} {a l : Addr} (e : h.get? a = some { cls := .type (KN t), data := .fields #[.ref l, .int 0 0] }) : KI t h a l 0 := by
  cases t with
  | false => exact ⟨_, e, rfl, rfl⟩
  | true => exact ⟨_, e, rfl, rfl⟩
section
variable {prog : Program} {w : World} {A : Around} {E : Value → Shared → Prop} {s : Shared}
theorem call_za {t t' : Bool} {l1 l2 : Addr} {xs ys : Array Value} {Q : Value → Shared → Prop} (a1 : KO t s.heap l1 xs) (a2 : KO t' s.heap l2 ys)
    (h : ∀ h', IsZip h' (s.heap.objs.size + 4) (s.heap.objs.size + 2) (s.heap.objs.size + 3) .none → IsPair h' (s.heap.objs.size + 2) (.ref s.heap.objs.size) (.ref (s.heap.objs.size + 1)) → IsPair h' (s.heap.objs.size + 3) .none .none → KI t h' s.heap.objs.size l1 0 → KI t' h' (s.heap.objs.size + 1) l2 0 →
      (∀ c o, s.heap.get? c = some o → h'.get? c = some o) → Q (.ref (s.heap.objs.size + 4)) { s with heap := h' }) : wpAny (model prog w) A (call (.type "zip") [.ref l1, .ref l2]) Q E s := by
  refine callType_new F.called_zip (by decide) (F.typeCall_zip_2 _ _) (F.newCall_zip_2 _ _) (fun obj => F.args_object_init_3 obj _ _) F.entry_zip_new (meets_za t t' l1 l2 xs ys) ⟨a1, a2, ?_⟩
  have z1 : (zaH1 t s.heap l1).objs.size = s.heap.objs.size + 1 := Heap.size_push ..
  have z2 : (zaH2 t t' s.heap l1 l2).objs.size = s.heap.objs.size + 2 := by rw [Heap.size_push, z1]
  have z3 : (zaH3 t t' s.heap l1 l2).objs.size = s.heap.objs.size + 3 := by rw [Heap.size_push, z2]
  have z4 : (zaH4 t t' s.heap l1 l2).objs.size = s.heap.objs.size + 4 := by rw [Heap.size_push, z3]
  have g5 : (zaH5 t t' s.heap l1 l2).get? (zaH4 t t' s.heap l1 l2).objs.size = some _ := Heap.get?_push_size _ rfl
  have g4 : (zaH5 t t' s.heap l1 l2).get? (zaH3 t t' s.heap l1 l2).objs.size = some _ := Heap.get?_push_of_some _ (Heap.get?_push_size _ rfl)
  have g3 : (zaH5 t t' s.heap l1 l2).get? (zaH2 t t' s.heap l1 l2).objs.size = some _ := Heap.get?_push_of_some _ (Heap.get?_push_of_some _ (Heap.get?_push_size _ rfl))
  have g2 : (zaH5 t t' s.heap l1 l2).get? (zaH1 t s.heap l1).objs.size = some _ := Heap.get?_push_of_some _ (Heap.get?_push_of_some _ (Heap.get?_push_of_some _ (Heap.get?_push_size _ rfl)))
  have g1 : (zaH5 t t' s.heap l1 l2).get? s.heap.objs.size = some _ := Heap.get?_push_of_some _ (Heap.get?_push_of_some _ (Heap.get?_push_of_some _ (Heap.get?_push_of_some _ (Heap.get?_push_size _ rfl))))
  show _ ∧ _
  rw [z2, z3, z4] at g5
  rw [z1, z2] at g3
  rw [z3] at g4
  rw [z1] at g2
  rw [z4]
  exact ⟨⟨_, g5, rfl⟩, h _ g5 g3 g4 (ki_new g1) (ki_new g2) fun c o x => Heap.get?_push_of_some _ (Heap.get?_push_of_some _ (Heap.get?_push_of_some _ (Heap.get?_push_of_some _ (Heap.get?_push_of_some _ x))))⟩
end
/-! over the hand layer -/
def SqK : Bool → PySem.W.Frag → Hp → Addr → List V → Prop
  | false, K, H, a, xs => SqL K H a xs
  | true, K, H, a, xs => SqT K H a xs
theorem SqK.fact {X : Cx} {pins : List (Addr × Obj)} {σ : L2.St} {H : Hp} {s : Shared} (I : Inv X pins σ H s) {t : Bool} {a : Addr} {xs : List V} (h : SqK t X.K H a xs) : ∃ its : List Value, Vals xs its ∧ KO t s.heap a its.toArray := by
  cases t with
  | false => obtain ⟨its, r, p, _⟩ := I.list h; exact ⟨its, r, p.isList⟩
  | true => obtain ⟨its, r, p, _⟩ := I.tuple h; exact ⟨its, r, p⟩
theorem SqK.inj {X : Cx} {pins : List (Addr × Obj)} {σ : L2.St} {H : Hp} {s : Shared} (I : Inv X pins σ H s) {t : Bool} {a : Addr} {xs ys : List V} (h : SqK t X.K H a xs) (g : SqK t X.K H a ys) : xs = ys := by
  cases t with
  | false => exact I.list_inj h g
  | true => exact I.tuple_inj h g
def ItzA (K : PySem.W.Frag) (t t' : Bool) (a b : Addr) : It :=
  ⟨fun i H => ∃ (xs ys : List V) (x y : V), SqK t K H a xs ∧ SqK t' K H b ys ∧ xs[i]? = some x ∧ ys[i]? = some y,
    fun i H v H' => ∃ (T : Addr) (ob : Obj) (x y : V), v = .ref T ∧ H T = none ∧ ob.dict = none ∧ H' = upd H T (.frz ob (.tup [x, y])) ∧ (∀ xs, SqK t K H a xs → xs[i]? = some x) ∧ ∀ ys, SqK t' K H b ys → ys[i]? = some y,
    fun i H => ∃ xs ys : List V, SqK t K H a xs ∧ SqK t' K H b ys ∧ (xs.length ≤ i ∨ ys.length ≤ i)⟩
theorem turn_za {P : Program} {w : World} {K : PySem.W.Frag} {t t' : Bool} {elts : List Expr} {kk : Nat} {tpos : Pos} {a b z TI TO i1 i2 : Addr} (D : ZipApart z TI TO i1 i2 a b) :
    Turn P w K (.Tuple elts kk tpos) (ItzA K t t' a b) [z, TI, TO, i1, i2] z (fun i h => IsZip h z TI TO .none ∧ IsPair h TI (.ref i1) (.ref i2) ∧ (∃ x y, IsPair h TO x y) ∧ KI t h i1 a i ∧ KI t' h i2 b i) := by
  refine ⟨by simp, fun i h st c hc => ?_, fun i h h' st k => ?_, ?_, ?_, fun A i s Q E st h => wpAny_pyIter_zip st.1 h⟩
  · obtain ⟨sz, sI, ⟨x, y, sO⟩, s1, s2⟩ := st
    have c5 : c = z ∨ c = TI ∨ c = TO ∨ c = i1 ∨ c = i2 := by simpa using hc
    rcases c5 with rfl | rfl | rfl | rfl | rfl
    · exact ⟨_, sz, fun v q => nomatch q⟩
    · exact ⟨_, sI, fun v q => nomatch q⟩
    · exact ⟨_, sO, fun v q => nomatch q⟩
    · exact s1.ob
    · exact s2.ob
  · obtain ⟨sz, sI, ⟨x, y, sO⟩, s1, s2⟩ := st
    exact ⟨k z (by simp) _ sz, k TI (by simp) _ sI, ⟨x, y, k TO (by simp) _ sO⟩, s1.mv fun o q => k i1 (by simp) o q, s2.mv fun o q => k i2 (by simp) o q⟩
  · intro X eP ew eK hc i pins s σ H E I hf st hg
    cases eP
    cases ew
    cases eK
    obtain ⟨sz, sI, ⟨x0, y0, sO⟩, s1, s2⟩ := st
    obtain ⟨xs, ys, x, y, qx, qy, ex, ey⟩ := hg
    obtain ⟨us, ru, pu⟩ := SqK.fact I qx
    obtain ⟨ws, rw', pw⟩ := SqK.fact I qy
    obtain ⟨u, eu, ru1⟩ := ru.get ex
    obtain ⟨v, ev, rv1⟩ := rw'.get ey
    have lz : z < s.heap.objs.size := Heap.lt_size sz
    refine za_next D sz sI sO s1 s2 pu pw (x := u) (y := v) (by simpa using eu) (by simpa using ev) fun h1 z1 O1 t1 t2 nT nsz kp => ?_
    refine ⟨_, rfl, wpAny_letOwnedTupleGo_zip (s := { s with heap := h1 }) z1 fun h2 z2 sb => ?_⟩
    have nT2 : h2.get? s.heap.objs.size = some { cls := .type "tuple", data := .seq #[u, v] } := (sb.2 _ (Nat.ne_of_gt lz)).trans nT
    have ok : ObjOk X.prog X.w (upd H s.heap.objs.size (.frz { cls := .type "tuple", data := .seq #[u, v] } (.tup [x, y]))) h2 s.heap.objs.size (.frz { cls := .type "tuple", data := .seq #[u, v] } (.tup [x, y])) :=
      ⟨nT2, (show 2 ≤ sizeLine by decide), [u, v], .cons ru1 (.cons rv1 .nil), ⟨_, nT2, rfl, _, rfl⟩⟩
    have all5 : ∀ c o, c ∉ [z, TI, TO, i1, i2] → s.heap.get? c = some o → h2.get? c = some o := fun c o nb q => by
      have n5 : c ≠ z ∧ c ≠ TI ∧ c ≠ TO ∧ c ≠ i1 ∧ c ≠ i2 := by simpa using nb
      exact (sb.2 c n5.1).trans (kp c o n5.1 n5.2.2.1 n5.2.2.2.1 n5.2.2.2.2 q)
    have I1 : Inv X pins σ (upd H s.heap.objs.size (.frz { cls := .type "tuple", data := .seq #[u, v] } (.tup [x, y]))) { s with heap := h2 } :=
      I.turnedNew (t' := s.toks) (ch := [z, TI, TO, i1, i2]) all5 hf (Nat.le_refl _) ok
    refine ⟨.ref s.heap.objs.size, _, I1, rfl, ⟨_, _, x, y, rfl, I.hok.fresh (Nat.le_refl _), rfl, rfl, fun l hl => by rw [SqK.inj I hl qx]; exact ex, fun l hl => by rw [SqK.inj I hl qy]; exact ey⟩, ⟨z2, ?_, ⟨u, v, ?_⟩, ?_, ?_⟩, fun c hcm => ?_⟩
    · exact (sb.2 _ D.TIz).trans (kp _ _ D.TIz D.TITO D.TIi1 D.TIi2 sI)
    · exact (sb.2 _ D.TOz).trans O1
    · exact t1.mv fun o q => (sb.2 _ D.i1z).trans q
    · exact t2.mv fun o q => (sb.2 _ D.i2z).trans q
    · have lt : c < s.heap.objs.size := by
        have c5 : c = z ∨ c = TI ∨ c = TO ∨ c = i1 ∨ c = i2 := by simpa using hcm
        rcases c5 with rfl | rfl | rfl | rfl | rfl
        · exact lz
        · exact Heap.lt_size sI
        · exact Heap.lt_size sO
        · exact s1.lt
        · exact s2.lt
      rw [upd_ne (Nat.ne_of_lt lt)]
      exact (hf c hcm).1
  · intro X eP ew eK hc i pins s σ H E I hf st hg
    cases eP
    cases ew
    cases eK
    obtain ⟨sz, sI, ⟨x0, y0, sO⟩, s1, s2⟩ := st
    obtain ⟨xs, ys, qx, qy, hend⟩ := hg
    obtain ⟨us, ru, pu⟩ := SqK.fact I qx
    obtain ⟨ws, rw', pw⟩ := SqK.fact I qy
    have l1 := ru.length
    have l2 := rw'.length
    have he : us.toArray[i]? = none ∨ ws.toArray[i]? = none := by
      rcases hend with q | q
      · exact .inl (by simp; omega)
      · exact .inr (by simp; omega)
    exact za_stop (I.ok.hd hc) D sz sI sO s1 s2 pu pw he fun h' hk => ⟨rfl, I.turnedL (t' := s.toks) (ch := [z, TI, TO, i1, i2]) (fun c o hb q => by
      have n5 : c ≠ z ∧ c ≠ TI ∧ c ≠ TO ∧ c ≠ i1 ∧ c ≠ i2 := by simpa using hb
      exact hk c o n5.1 n5.2.2.1 n5.2.2.2.1 n5.2.2.2.2 q) hf⟩
theorem pi_za {X : Cx} {e e2 : Expr} {ta : TA} {p pos tpos : Pos} {elts : List Expr} {kk : Nat} (hg : Gl X "zip") (hm : X.mg "zip" = none) (ha : PA X [e, e2] ta)
    (hs : starEach [e, e2] X.env = (false, eval e X.env) :: starEach [e2] X.env) (hpl : (backTo pos (starEach [e2] X.env)).any (·.1) = false) :
    PI X (.Tuple elts kk tpos) (.Call (.Name "zip" p) [e, e2] [] pos) (fun σ H R => ta σ H fun vs H1 => ∃ t t' a b xs ys, vs = [.ref a, .ref b] ∧ SqK t X.kw H1 a xs ∧ SqK t' X.kw H1 b ys ∧ R (ItzA X.kw t t' a b) H1) := by
  refine ⟨fun pins s σ H R I h => Call_ (ld_blt I hg hm PyProof.Rows.boot_zip (PyProof.Rows.callWith_type1 (thn (ha.run pos pins s σ H _ I h) fun us s1 hh => ?_) hs hpl))⟩
  obtain ⟨vs, H1, I1, r1, t, t', a, b, xs, ys, ex, qx, qy, q⟩ := hh
  subst ex
  obtain ⟨u, w, eu, ra, rb⟩ := vals2 r1
  subst eu
  cases ra
  cases rb
  obtain ⟨ls, _, pa⟩ := SqK.fact I1 qx
  obtain ⟨ms, _, pb⟩ := SqK.fact I1 qy
  refine call_za pa pb fun h' z1 z2 z3 z4 z5 zk => wpAny_pyIter_zip z1 ?_
  have I2 : Inv X pins σ H1 { s1 with heap := h' } := I1.kept (t' := s1.toks) zk
  refine ⟨_, [s1.heap.objs.size + 4, s1.heap.objs.size + 2, s1.heap.objs.size + 3, s1.heap.objs.size, s1.heap.objs.size + 1], _, _, H1, rfl, I2, turn_za (t := t) (t' := t') (PySem.W.ktu_apart s1.heap.objs.size a b pa.lt pb.lt), ⟨z1, z2, ⟨_, _, z3⟩, z4, z5⟩, fun c hcm => ?_, q⟩
  have le : s1.heap.objs.size ≤ c := by
    have c5 : c = s1.heap.objs.size + 4 ∨ c = s1.heap.objs.size + 2 ∨ c = s1.heap.objs.size + 3 ∨ c = s1.heap.objs.size ∨ c = s1.heap.objs.size + 1 := by simpa using hcm
    rcases c5 with rfl | rfl | rfl | rfl | rfl
    · exact Nat.le_add_right _ _
    · exact Nat.le_add_right _ _
    · exact Nat.le_add_right _ _
    · exact Nat.le_refl _
    · exact Nat.le_add_right _ _
  exact I1.fpOk le (I1.hok.fresh le)
end Z

set_option Elab.async false
set_option linter.all false
set_option maxRecDepth 100000
set_option maxHeartbeats 4000000
/-! EnumA: enumerate of a tuple. -/
namespace Z
open PySem L2 PySem.Spec PyProof.Rows
open PySem.Sem (wp)
open PySem.AutoSeq1 (wpAny_loadPart')
section
variable {prog : Program} {w : World} {A : Around} {E : Value → Shared → Prop} {s : Shared}
theorem ea_item {t : Bool} {e it l : Addr} {i : Nat} {items : Array Value} {x old : Value} {Q : Value → Shared → Prop}
    (he : IsEnum s.heap e it i old) (hit : KI t s.heap it l i) (hl : KO t s.heap l items) (hx : items[i]? = some x) (hne : e ≠ it)
    (hQ : ∀ h', IsEnumOut h' e it ((i : Int) + 1) x s.heap.objs.size → KI t h' it l (i + 1) →
      h'.get? s.heap.objs.size = some { cls := .type "tuple", data := .seq #[.int i s.toks, x] } → h'.objs.size = s.heap.objs.size + 1 →
      (∀ b o, b ≠ e → b ≠ it → s.heap.get? b = some o → h'.get? b = some o) → Q (.ref s.heap.objs.size) { s with heap := h', toks := s.toks + 1 }) :
    wpAny (model prog w) A (Builtin.«enumerate.__next__» ⟨[.ref e], []⟩) (fun fin s' => ∃ v, fin = .done (.ret v) ∧ Q v s') E s := by
  obtain ⟨hp, g, d, tk, os⟩ := s
  show wpAny _ _ (field (.ref e) 2 >>= _) _ _ _
  refine wpAny_bind (wpAny_field he rfl (x := .ref it) rfl ?_)
  refine wpAny_bind (ki_item hit hl hx fun h₁ hit₁ hs₁ => ?_)
  replace hs₁ : Heap.SameBut it hp h₁ := hs₁
  have he₁ : IsEnum h₁ e it i old := (hs₁.2 e hne).trans he
  show wpAny _ _ (field (.ref e) 3 >>= _) _ _ ⟨h₁, g, d, tk, os⟩
  refine wpAny_bind (wpAny_field he₁ rfl (x := rawInt i) rfl ?_)
  show wpAny _ _ (field (.ref e) 4 >>= _) _ _ ⟨h₁, g, d, tk, os⟩
  refine wpAny_bind (wpAny_field he₁ rfl (x := .none) rfl ?_)
  show wpAny _ _ (mkInt i >>= _) _ _ ⟨h₁, g, d, tk, os⟩
  refine wpAny_bind (wpAny_mkInt ?_)
  show wpAny _ _ (setField (.ref e) 3 (rawInt ((i : Int) + 1)) >>= _) _ _ ⟨h₁, g, d, tk + 1, os⟩
  refine wpAny_bind (wpAny_setField_rec he₁ (by simp) fun h₂ he₂ hs₂ => ?_)
  replace hs₂ : Heap.SameBut e h₁ h₂ := hs₂
  replace he₂ : IsEnum h₂ e it ((i : Int) + 1) old := he₂
  show wpAny _ _ (setField (.ref e) 4 .none >>= _) _ _ ⟨h₂, g, d, tk + 1, os⟩
  refine wpAny_bind (wpAny_setField_rec he₂ (by simp) fun h₃ he₃ hs₃ => ?_)
  replace hs₃ : Heap.SameBut e h₂ h₃ := hs₃
  replace he₃ : IsEnum h₃ e it ((i : Int) + 1) old := he₃
  show wpAny _ _ (newTuple [.int i tk, x] >>= _) _ _ ⟨h₃, g, d, tk + 1, os⟩
  refine wpAny_bind (wpAny_newTuple ?_)
  have he₄ : IsEnum (h₃.push { cls := .type "tuple", data := .seq #[.int i tk, x] }) e it ((i : Int) + 1) old := Heap.get?_push_of_some _ he₃
  generalize hh₄ : h₃.push { cls := .type "tuple", data := .seq #[.int i tk, x] } = h₄ at he₄
  have hsz : h₃.objs.size = hp.objs.size := by rw [hs₃.1, hs₂.1, hs₁.1]
  have hel : e < hp.objs.size := Heap.lt_size he
  have ht₄ : h₄.get? hp.objs.size = some { cls := .type "tuple", data := .seq #[.int i tk, x] } := by rw [← hh₄, ← hsz]; exact Heap.get?_push_size _ rfl
  have hz₄ : h₄.objs.size = hp.objs.size + 1 := by rw [← hh₄, Heap.size_push, hsz]
  have hk₄ : ∀ b o, b ≠ e → b ≠ it → hp.get? b = some o → h₄.get? b = some o := fun b o hbe hbi hb => by
    rw [← hh₄]; exact Heap.get?_push_of_some _ (hs₃.extBut b o hbe (hs₂.extBut b o hbe (hs₁.extBut b o hbi hb)))
  have hit₄ : KI t h₄ it l (i + 1) := by
    rw [← hh₄]
    exact ((hit₁.ext hs₂.extBut (Ne.symm hne)).ext hs₃.extBut (Ne.symm hne)).mv fun o ho => Heap.get?_push_of_some _ ho
  show wpAny _ _ (Builtin.SmallTypes.ownedTupleIsFree (.ref e) >>= _) _ _ ⟨h₄, g, d, tk + 1, os⟩
  rw [hsz]
  clear hh₄ he₃ hs₃ he₂ hs₂ he₁ hs₁ hit₁ hsz h₃ h₂ h₁
  refine wpAny_bind ?_
  · unfold Builtin.SmallTypes.ownedTupleIsFree
    refine wpAny_bind (wpAny_field he₄ rfl (x := .none) rfl (wpAny_pure ?_))
    simp only [if_true]
    refine wpAny_bind (wpAny_rule ?_)
    refine wpAny_bind (wpAny_field he₄ rfl (x := old) rfl ?_)
    refine wpAny_bind (wpAny_setField_rec he₄ (by simp) fun h₅ he₅ hs₅ => ?_)
    replace hs₅ : Heap.SameBut e h₄ h₅ := hs₅
    replace he₅ : IsEnum h₅ e it ((i : Int) + 1) x := he₅
    show wpAny _ _ (Builtin.SmallTypes.ownedTupleHandOut (.ref e) (.ref hp.objs.size) >>= _) _ _ ⟨h₅, g, d, tk + 1, os⟩
    refine wpAny_bind ?_
    · unfold Builtin.SmallTypes.ownedTupleHandOut
      refine wpAny_bind (wpAny_setField_rec he₅ (by simp) fun h₆ he₆ hs₆ => ?_)
      replace hs₆ : Heap.SameBut e h₅ h₆ := hs₆
      replace he₆ : IsEnumOut h₆ e it ((i : Int) + 1) x hp.objs.size := he₆
      refine wpAny_setField_rec he₆ (by simp) fun h₇ he₇ hs₇ => ?_
      replace hs₇ : Heap.SameBut e h₆ h₇ := hs₇
      replace he₇ : IsEnumOut h₇ e it ((i : Int) + 1) x hp.objs.size := he₇
      refine wpAny_bind (wpAny_letGo (wpAny_pure ⟨_, rfl, hQ h₇ he₇ ?_ ?_ ?_ ?_⟩))
      · exact ((hit₄.ext hs₅.extBut (Ne.symm hne)).ext hs₆.extBut (Ne.symm hne)).ext hs₇.extBut (Ne.symm hne)
      · exact hs₇.extBut _ _ (Nat.ne_of_gt hel) (hs₆.extBut _ _ (Nat.ne_of_gt hel) (hs₅.extBut _ _ (Nat.ne_of_gt hel) ht₄))
      · rw [hs₇.1, hs₆.1, hs₅.1, hz₄]
      · exact fun b o hbe hbi hb => hs₇.extBut b o hbe (hs₆.extBut b o hbe (hs₅.extBut b o hbe (hk₄ b o hbe hbi hb)))
theorem ea_next {t : Bool} {e it l : Addr} {i : Nat} {items : Array Value} {x old : Value} {Q : Option Value → Shared → Prop}
    (he : IsEnum s.heap e it i old) (hit : KI t s.heap it l i) (hl : KO t s.heap l items) (hx : items[i]? = some x) (hne : e ≠ it)
    (hQ : ∀ h', IsEnumOut h' e it ((i : Int) + 1) x s.heap.objs.size → KI t h' it l (i + 1) →
      h'.get? s.heap.objs.size = some { cls := .type "tuple", data := .seq #[.int i s.toks, x] } → h'.objs.size = s.heap.objs.size + 1 →
      (∀ b o, b ≠ e → b ≠ it → s.heap.get? b = some o → h'.get? b = some o) → Q (some (.ref s.heap.objs.size)) { s with heap := h', toks := s.toks + 1 }) :
    wpAny (model prog w) A (pyNext (.ref e)) Q E s := by
  have hT : s.TypeIs (.ref e) "enumerate" := ⟨_, he, rfl⟩
  unfold pyNext
  exact wpAny_bind (wpAny_attempt (wpAny_callSpecial?_slot (name := Str.ofString "__next__") hT F.slot_enumerate_next
    (wpAny_call_entry F.slot_enumerate_next hT F.entry_enumerate_next
      (ea_item he hit hl hx hne fun h' a b c d k => wpAny_pure (hQ h' a b c d k)) (F.args_enumerate_next_1 _))))
theorem ea_stop {t : Bool} {e it l : Addr} {i : Nat} {items : Array Value} {old : Value} {Q : Option Value → Shared → Prop} (hh : A.handled = none)
    (he : IsEnum s.heap e it i old) (hit : KI t s.heap it l i) (hl : KO t s.heap l items) (hx : items[i]? = none)
    (hQ : ∀ h', Heap.ExtBut it s.heap h' → Q none { s with heap := h' }) : wpAny (model prog w) A (pyNext (.ref e)) Q E s := by
  have hT : s.TypeIs (.ref e) "enumerate" := ⟨_, he, rfl⟩
  unfold pyNext
  refine wpAny_bind (wpAny_attempt (wpAny_callSpecial?_slot (name := Str.ofString "__next__") hT F.slot_enumerate_next
    (wpAny_call_entry F.slot_enumerate_next hT F.entry_enumerate_next ?_ (F.args_enumerate_next_1 _))))
  show wpAny _ _ (field (.ref e) 2 >>= _) _ _ _
  refine wpAny_bind (wpAny_field he rfl (x := .ref it) rfl ?_)
  refine wpAny_bind (ki_end hh hit hl hx fun h' x he' hx' => ?_)
  obtain ⟨o, ho, hc⟩ := hx'
  refine wpAny_bind (wpAny_isInstance (T := "StopIteration") (b := true) ⟨o, ho, hc⟩ isSubtype_stop ?_)
  exact wpAny_pure (hQ _ he')
end
theorem meets_ea (l : Addr) (items : Array Value) (n : Nat) (dct : Option Addr) (sl : Array (Option Value)) :
    Meets (Builtin.«enumerate.__new__» ⟨[.type "enumerate", .ref l], []⟩) (fun _ R s => s.heap.get? l = some { cls := .type "tuple", dict := dct, data := .seq items n, slots := sl } ∧
      R (.ok (.ret (.ref (s.heap.push { cls := .type "tuple_iterator", data := .fields #[.ref l, .int 0 0] }).objs.size)))
        { s with heap := (s.heap.push { cls := .type "tuple_iterator", data := .fields #[.ref l, .int 0 0] }).push { cls := .type "enumerate", data := .fields #[.none, .bool false, .ref s.heap.objs.size, rawInt 0, .none, .none] } }) :=
  .of_wp fun prog w A R s h => by
    obtain ⟨hp, g, d, tk, os⟩ := s; obtain ⟨hl, h⟩ := h
    have hsub := sub_enumerate
    have hL : Heap.IsTuple (Shared.heap ⟨hp, g, d, tk, os⟩) l items := ⟨_, hl, rfl, n, rfl⟩
    wp_walk using wpAny_loadPart' hl
    refine wpAny_stack_any fun st => wpAny_pure ?_
    split
    · rename_i c _ _ _ _ _
      cases (c == Value.type "enumerate")
      · wp_walk using wpAny_loadPart' hl, wpAny_pyIter_tuple hL
        exact ⟨_, rfl, h⟩
      · wp_walk using wpAny_loadPart' hl, wpAny_pyIter_tuple hL
        exact ⟨_, rfl, h⟩
    · wp_walk using wpAny_loadPart' hl, wpAny_pyIter_tuple hL
      exact ⟨_, rfl, h⟩
section
variable {prog : Program} {w : World} {A : Around} {E : Value → Shared → Prop} {s : Shared}
theorem call_ea {l : Addr} {items : Array Value} {Q : Value → Shared → Prop} (hL : s.heap.IsTuple l items)
    (h : ∀ h', IsEnum h' (s.heap.objs.size + 1) s.heap.objs.size 0 .none → KI true h' s.heap.objs.size l 0 →
      (∀ b o, s.heap.get? b = some o → h'.get? b = some o) → Q (.ref (s.heap.objs.size + 1)) { s with heap := h' }) :
    wpAny (model prog w) A (call (.type "enumerate") [.ref l]) Q E s := by
  obtain ⟨⟨c, dct, dt, sl⟩, hl, hc, n, hd⟩ := hL
  replace hc : c = .type "tuple" := hc
  replace hd : dt = .seq items n := hd
  subst hc hd
  refine callType_new F.called_enumerate (by decide) (F.typeCall_enumerate_1 _) (F.newCall_enumerate_1 _) (fun obj => F.args_object_init_2 obj _) F.entry_enumerate_new
    (meets_ea l items n dct sl) ⟨hl, ?_⟩
  have hz : (s.heap.push { cls := .type "tuple_iterator", data := .fields #[.ref l, .int 0 0] }).objs.size = s.heap.objs.size + 1 := Heap.size_push ..
  show _ ∧ _
  rw [hz]
  have he : IsEnum ((s.heap.push { cls := .type "tuple_iterator", data := .fields #[.ref l, .int 0 0] }).push
      { cls := .type "enumerate", data := .fields #[.none, .bool false, .ref s.heap.objs.size, rawInt 0, .none, .none] }) (s.heap.objs.size + 1) s.heap.objs.size 0 .none := by
    have := Heap.get?_push_size (s.heap.push { cls := .type "tuple_iterator", data := .fields #[.ref l, .int 0 0] })
      (o := { cls := .type "enumerate", data := .fields #[.none, .bool false, .ref s.heap.objs.size, rawInt 0, .none, .none] }) rfl
    rw [hz] at this; exact this
  exact ⟨⟨_, he, rfl⟩, h _ he ⟨_, Heap.get?_push_of_some _ (Heap.get?_push_size _ rfl), rfl, rfl⟩ fun b o x => Heap.get?_push_of_some _ (Heap.get?_push_of_some _ x)⟩
end
def IteA (K : PySem.W.Frag) (a : Addr) : It :=
  ⟨fun i H => ∃ (xs : List V) (x : V), SqT K H a xs ∧ xs[i]? = some x,
    fun i H v H' => ∃ (T : Addr) (ob : Obj) (x : V), v = .ref T ∧ H T = none ∧ ob.dict = none ∧ H' = upd H T (.frz ob (.tup [.int (i : Nat), x])) ∧ ∀ xs, SqT K H a xs → xs[i]? = some x,
    fun i H => ∃ xs : List V, SqT K H a xs ∧ xs.length ≤ i⟩
theorem turn_ea {P : Program} {w : World} {K : PySem.W.Frag} {elts : List Expr} {kk : Nat} {tpos : Pos} (a e it : Addr) :
    Turn P w K (.Tuple elts kk tpos) (IteA K a) [e, it] e (fun i h => (∃ old, IsEnum h e it ((i : Nat) : Int) old) ∧ KI true h it a i ∧ e ≠ it) where
  mem := by simp
  obj := fun i h st b hb => by
    obtain ⟨⟨old, he⟩, hi, _⟩ := st
    have e' : b = e ∨ b = it := by simpa using hb
    rcases e' with z | z
    · rw [z]; exact ⟨_, he, fun v q => nomatch q⟩
    · rw [z]; exact hi.ob
  keep := fun i h h' st k => let ⟨⟨old, he⟩, hi, hne⟩ := st; ⟨⟨old, k e (by simp) _ he⟩, hi.mv fun o q => k it (by simp) o q, hne⟩
  item := by
    intro X hP hw hK hc i pins s σ H E I hf st hg
    subst hP hw hK
    obtain ⟨⟨old, he⟩, hit, hne⟩ := st
    obtain ⟨xs, x, hq, hx⟩ := hg
    obtain ⟨its, rv, p⟩ := SqK.fact (t := true) I hq
    obtain ⟨u, hu, ru⟩ := rv.get hx
    have hel : e < s.heap.objs.size := Heap.lt_size he
    have hil : it < s.heap.objs.size := hit.lt
    refine ea_next he hit p (x := u) (by simpa using hu) hne fun h' ho hit' hT hsz hk => ?_
    refine ⟨_, rfl, wpAny_letOwnedTupleGo_enum (s := { s with heap := h', toks := s.toks + 1 }) ho fun h'' he' sb => ?_⟩
    have hT2 : h''.get? s.heap.objs.size = some { cls := .type "tuple", data := .seq #[.int i s.toks, u] } := (sb.2 _ (Nat.ne_of_gt hel)).trans hT
    have new : ObjOk X.prog X.w (upd H s.heap.objs.size (.frz { cls := .type "tuple", data := .seq #[.int i s.toks, u] } (.tup [.int (i : Nat), x]))) h'' s.heap.objs.size (.frz { cls := .type "tuple", data := .seq #[.int i s.toks, u] } (.tup [.int (i : Nat), x])) :=
      ⟨hT2, (show 2 ≤ sizeLine by decide), [.int i s.toks, u], .cons ⟨_, rfl⟩ (.cons ru .nil), ⟨_, hT2, rfl, _, rfl⟩⟩
    have I1 : Inv X pins σ (upd H s.heap.objs.size (.frz { cls := .type "tuple", data := .seq #[.int i s.toks, u] } (.tup [.int (i : Nat), x]))) { s with heap := h'', toks := s.toks + 1 } :=
      I.turnedNew (ch := [e, it]) (fun b ob hb q => (sb.2 b (fun z => hb (by simp [z]))).trans (hk b ob (fun z => hb (by simp [z])) (fun z => hb (by simp [z])) q)) hf (Nat.le_refl _) new
    refine ⟨.ref s.heap.objs.size, _, I1, rfl, ⟨_, _, x, rfl, I.hok.fresh (Nat.le_refl _), rfl, rfl, fun ys hy => by rw [SqK.inj (t := true) I hy hq]; exact hx⟩, ⟨⟨u, ?_⟩, hit'.mv fun o q => (sb.2 it (Ne.symm hne)).trans q, hne⟩, fun b hb => ?_⟩
    · have e1 : ((i + 1 : Nat) : Int) = (i : Int) + 1 := by omega
      rw [e1]; exact he'
    · have hb' : b < s.heap.objs.size := by
        have e' : b = e ∨ b = it := by simpa using hb
        rcases e' with z | z
        · rw [z]; exact hel
        · rw [z]; exact hil
      rw [upd_ne (Nat.ne_of_lt hb')]
      exact (hf b hb).1
  done := by
    intro X hP hw hK hc i pins s σ H E I hf st hg
    subst hP hw hK
    obtain ⟨⟨old, he⟩, hit, hne⟩ := st
    obtain ⟨xs, hq, hx⟩ := hg
    obtain ⟨its, rv, p⟩ := SqK.fact (t := true) I hq
    obtain ⟨f0, f1, f2, f3, f4, f5⟩ := hf it (by simp)
    have hl := rv.length
    exact ea_stop (I.ok.hd hc) he hit p (by simp; omega) fun h' eb => ⟨rfl, I.turned (t' := s.toks) (fun b o hb q => eb b o hb q) f0 f1 f3 f4 f5⟩
  self := fun A i s Q E st h => let ⟨⟨_, he⟩, _⟩ := st; wpAny_pyIter_enum he h
theorem pi_ea {X : Cx} {e : Expr} {ta : TA} {p pos tpos : Pos} {elts : List Expr} {kk : Nat} (hg : Gl X "enumerate") (hm : X.mg "enumerate" = none) (ha : PA X [e] ta) (hs : starEach [e] X.env = [(false, eval e X.env)] := by rfl) :
    PI X (.Tuple elts kk tpos) (.Call (.Name "enumerate" p) [e] [] pos) (fun σ H R => ta σ H fun vs H1 => ∃ a xs, vs = [.ref a] ∧ SqT X.kw H1 a xs ∧ R (IteA X.kw a) H1) := by
  refine ⟨fun pins s σ H R I h => ?_⟩
  refine Call_ (ld_blt I hg hm boot_enumerate (PyProof.Rows.callWith_type1 (thn (ha.run pos pins s σ H _ I h) fun us s1 ⟨vs, H1, I1, r1, q1⟩ => ?_) hs rfl))
  obtain ⟨a, xs, ex, hq, q⟩ := q1
  subst ex
  cases r1 with
  | cons r rr =>
    cases rr
    cases r
    obtain ⟨its, rv, p'⟩ := SqK.fact (t := true) I1 hq
    refine call_ea p' fun h' he hit hk => wpAny_pyIter_enum he ?_
    have I2 : Inv X pins σ H1 { s1 with heap := h' } := I1.kept (t' := s1.toks) hk
    refine ⟨s1.heap.objs.size + 1, [s1.heap.objs.size + 1, s1.heap.objs.size], _, _, H1, rfl, I2, turn_ea a (s1.heap.objs.size + 1) s1.heap.objs.size, ⟨⟨.none, he⟩, hit, Nat.succ_ne_self _⟩, fun b hb => ?_, q⟩
    have e' : b = s1.heap.objs.size + 1 ∨ b = s1.heap.objs.size := by simpa using hb
    have hle : s1.heap.objs.size ≤ b := by
      rcases e' with z | z
      · rw [z]; exact Nat.le_add_right _ _
      · rw [z]; exact Nat.le_refl _
    exact I1.fpOk hle (I1.hok.fresh hle)
end Z

set_option Elab.async false
set_option linter.all false
set_option maxRecDepth 100000
set_option maxHeartbeats 4000000
/-! Ev5: what is walked; list comprehensions. -/
namespace Z
open PySem L2 PySem.Spec PyProof.Rows

section
variable {K : KW} {al : Nat → Addr} {n : Nat} {U U' : List Addr} {H H' : Hp} {S : Store}
/-- more, other addresses that may change -/
theorem Off.widen {a : Addr} {o : HO} (h : Off al n U a) (e : H a = some o) (hu : ∀ u ∈ U', u ∈ U ∨ H u = none) : Off al n U' a :=
  ⟨h.1, fun hm => (hu a hm).elim h.2 fun z => by rw [e] at z; cases z⟩
theorem Rd.some {a : Addr} {u : HO} (h : Rd H a u) : ∃ o, H a = some o := by
  rcases h with h | ⟨ob, h⟩
  · exact ⟨_, h⟩
  · exact ⟨_, h⟩
theorem TupAt.widen {a : Addr} {xs : List V} (h : TupAt K al n U H a xs) (hu : ∀ u ∈ U', u ∈ U ∨ H u = none) : TupAt K al n U' H a xs := by
  rcases h with ⟨h, o⟩ | h
  · obtain ⟨ob, e, _⟩ := id h
    exact .inl ⟨h, o.widen e hu⟩
  · exact .inr h
theorem LstAt.widen {a : Addr} {xs : List V} (h : LstAt K al n U H a xs) (hu : ∀ u ∈ U', u ∈ U ∨ H u = none) : LstAt K al n U' H a xs := by
  rcases h with ⟨h, o⟩ | h
  · obtain ⟨ob, e⟩ := Rd.some h
    exact .inl ⟨h, o.widen e hu⟩
  · exact .inr h
mutual
theorem Rep.widen (hu : ∀ u ∈ U', u ∈ U ∨ H u = none) : ∀ (d : D) (v : V), Rep K al n U H d v → Rep K al n U' H d v
  | .non, v, h => by simp only [Rep] at h ⊢; exact h
  | .bl b, v, h => by simp only [Rep] at h ⊢; exact h
  | .int i, v, h => by simp only [Rep] at h ⊢; exact h
  | .str s, v, h => by simp only [Rep] at h ⊢; exact h
  | .tup ds, v, h => by
    simp only [Rep] at h ⊢
    obtain ⟨a, vs, e, t, l, r⟩ := h
    exact ⟨a, vs, e, t.widen hu, l, Reps.widen hu ds vs r⟩
  | .lst ds, v, h => by
    simp only [Rep] at h ⊢
    obtain ⟨a, vs, e, t, l, r⟩ := h
    exact ⟨a, vs, e, t.widen hu, l, Reps.widen hu ds vs r⟩
  | .ref i, v, h => by simp only [Rep] at h ⊢; exact h
  | .fn _, v, h => by simp only [Rep] at h ⊢; exact h
  | .exc _, v, h => by
    simp only [Rep] at h ⊢
    obtain ⟨a, e, C, h1, h2, h3⟩ := h
    exact ⟨a, e, C, h1, h2, h3.widen h2 hu⟩
theorem Reps.widen (hu : ∀ u ∈ U', u ∈ U ∨ H u = none) : ∀ (ds : List D) (vs : List V), Reps K al n U H ds vs → Reps K al n U' H ds vs
  | [], vs, h => by simp only [Reps] at h ⊢; exact h
  | d :: ds, vs, h => by
    simp only [Reps] at h ⊢
    obtain ⟨v, r, e, h1, h2⟩ := h
    exact ⟨v, r, e, Rep.widen hu d v h1, Reps.widen hu ds r h2⟩
end
theorem ObjRep.widen (hu : ∀ u ∈ U', u ∈ U ∨ H u = none) {a : Addr} {o : O} (h : ObjRep K al n U H a o) : ObjRep K al n U' H a o := by
  cases o with
  | lst ds => obtain ⟨vs, q, l, r⟩ := h; exact ⟨vs, q, l, Reps.widen hu _ _ r⟩
  | dct ks vs => obtain ⟨kvs, q, l, r, s, t, w⟩ := h; exact ⟨kvs, q, l, r, Reps.widen hu _ _ s, t, w⟩
  | dcn ks vs => obtain ⟨xs, bs, us, q, l, r, s⟩ := h; exact ⟨xs, bs, us, q, l, Reps.widen hu _ _ r, Reps.widen hu _ _ s⟩
  | ins c fs => obtain ⟨C, dx, us, h1, q, l, r⟩ := h; exact ⟨C, dx, us, h1, q, l, Reps.widen hu _ _ r⟩
/-- a change at an address that may change -/
theorem TupAt.touch {a : Addr} {xs : List V} (h : TupAt K al n U H a xs) (hx : ∀ a o, H a = some o → a ∉ U → H' a = some o) : TupAt K al n U H' a xs := by
  rcases h with ⟨⟨ob, h, hd⟩, o⟩ | h
  · exact .inl ⟨⟨ob, hx _ _ h o.2, hd⟩, o⟩
  · exact .inr h
theorem LstAt.touch {a : Addr} {xs : List V} (h : LstAt K al n U H a xs) (hx : ∀ a o, H a = some o → a ∉ U → H' a = some o) : LstAt K al n U H' a xs := by
  rcases h with ⟨h, o⟩ | h
  · refine .inl ⟨?_, o⟩
    rcases h with h | ⟨ob, h⟩
    · exact .inl (hx _ _ h o.2)
    · exact .inr ⟨ob, hx _ _ h o.2⟩
  · exact .inr h
mutual
theorem Rep.touch (hx : ∀ a o, H a = some o → a ∉ U → H' a = some o) : ∀ (d : D) (v : V), Rep K al n U H d v → Rep K al n U H' d v
  | .non, v, h => by simp only [Rep] at h ⊢; exact h
  | .bl b, v, h => by simp only [Rep] at h ⊢; exact h
  | .int i, v, h => by simp only [Rep] at h ⊢; exact h
  | .str s, v, h => by simp only [Rep] at h ⊢; exact h
  | .tup ds, v, h => by
    simp only [Rep] at h ⊢
    obtain ⟨a, vs, e, t, l, r⟩ := h
    exact ⟨a, vs, e, t.touch hx, l, Reps.touch hx ds vs r⟩
  | .lst ds, v, h => by
    simp only [Rep] at h ⊢
    obtain ⟨a, vs, e, t, l, r⟩ := h
    exact ⟨a, vs, e, t.touch hx, l, Reps.touch hx ds vs r⟩
  | .ref i, v, h => by simp only [Rep] at h ⊢; exact h
  | .fn _, v, h => by simp only [Rep] at h ⊢; exact h
  | .exc _, v, h => by
    simp only [Rep] at h ⊢
    obtain ⟨a, e, C, h1, h2, h3⟩ := h
    exact ⟨a, e, C, h1, hx _ _ h2 h3.2, h3⟩
theorem Reps.touch (hx : ∀ a o, H a = some o → a ∉ U → H' a = some o) : ∀ (ds : List D) (vs : List V), Reps K al n U H ds vs → Reps K al n U H' ds vs
  | [], vs, h => by simp only [Reps] at h ⊢; exact h
  | d :: ds, vs, h => by
    simp only [Reps] at h ⊢
    obtain ⟨v, r, e, h1, h2⟩ := h
    exact ⟨v, r, e, Rep.touch hx d v h1, Reps.touch hx ds r h2⟩
end
theorem SR.touch (h : SR K al U S H) {p : Addr} {o : HO} (hp : p ∈ U) : SR K al U S (upd H p o) := by
  have hx : ∀ a ob, H a = some ob → a ∉ U → upd H p o a = some ob := fun a ob e hn => by
    have hne : a ≠ p := fun z => hn (by rw [z]; exact hp)
    rw [upd_ne hne]
    exact e
  refine ⟨h.inj, h.off, fun a ha e => ?_, fun i ob e => ?_⟩
  · by_cases q : a = p
    · subst q; rw [upd_same] at e; cases e
    · rw [upd_ne q] at e; exact h.liv a ha e
  · have hi : i < S.length := by
      obtain ⟨q, _⟩ := List.getElem?_eq_some_iff.mp e
      exact q
    have hne : al i ≠ p := fun z => h.off i hi (by rw [z]; exact hp)
    have q := h.obj i ob e
    cases ob with
    | lst ds => obtain ⟨vs, q, l, r⟩ := q; exact ⟨vs, (upd_ne hne).trans q, l, Reps.touch hx _ _ r⟩
    | dct ks vs => obtain ⟨kvs, q, l, r, s, t, w⟩ := q; exact ⟨kvs, (upd_ne hne).trans q, l, r, Reps.touch hx _ _ s, t, w⟩
    | dcn ks vs => obtain ⟨xs, bs, us, q, l, r, s⟩ := q; exact ⟨xs, bs, us, (upd_ne hne).trans q, l, Reps.touch hx _ _ r, Reps.touch hx _ _ s⟩
    | ins c fs => obtain ⟨C, dx, us, h1, q, l, r⟩ := q; exact ⟨C, dx, us, h1, (upd_ne hne).trans q, l, Reps.touch hx _ _ r⟩
/-- a new address that may change -/
theorem SR.fresh1 (h : SR K al U S H) {p : Addr} (hp : H p = none) (o : HO) : SR K al (p :: U) S (upd H p o) := by
  obtain ⟨n1, s1⟩ := h.lay hp o
  refine ⟨s1.inj, fun i hi hm => ?_, fun a ha e => ?_, fun i ob e => ?_⟩
  · rcases List.mem_cons.mp hm with z | z
    · exact h.at_ hi (by rw [z]; exact hp)
    · exact s1.off i hi z
  · rcases List.mem_cons.mp ha with z | z
    · subst z; rw [upd_same] at e; cases e
    · exact s1.liv a z e
  · have hi : i < S.length := by
      obtain ⟨q, _⟩ := List.getElem?_eq_some_iff.mp e
      exact q
    have hne : al i ≠ p := fun z => h.at_ hi (by rw [z]; exact hp)
    have hu : ∀ u ∈ p :: U, u ∈ U ∨ H u = none := fun u hm => (List.mem_cons.mp hm).elim (fun z => .inr (by rw [z]; exact hp)) .inl
    exact ((h.obj i ob e).widen hu).nxt n1 (upd_ne hne)
theorem SR.less (h : SR K al U S H) (hu : ∀ u ∈ U', u ∈ U) : SR K al U' S H :=
  ⟨h.inj, fun i hi hm => h.off i hi (hu _ hm), fun a ha => h.liv a (hu a ha), fun i o e => (h.obj i o e).widen fun u hm => .inl (hu u hm)⟩
/-- an address that may change becomes an object of the store -/
theorem SR.adopt {p : Addr} (h : SR K al (p :: U) S H) (hU : p ∉ U) {o : O} (ho : ∀ g : ∀ (ds : List D) (vs : List V), Reps K al S.length (p :: U) H ds vs → Reps K (ext1 al S.length p) (S.length + 1) U H ds vs, ObjRep K (ext1 al S.length p) (S.length + 1) U H p o) :
    SR K (ext1 al S.length p) U (S ++ [o]) H ∧ ext1 al S.length p S.length = p := by
  have hl : (S ++ [o]).length = S.length + 1 := by simp
  have e1 : ext1 al S.length p S.length = p := if_pos rfl
  have e2 : ∀ i, i < S.length → ext1 al S.length p i = al i := fun i hi => if_neg (by omega)
  have off : ∀ a, Off al S.length (p :: U) a → Off (ext1 al S.length p) (S.length + 1) U a := fun a hf => by
    refine ⟨fun i hi => ?_, fun hm => hf.2 (List.mem_cons_of_mem _ hm)⟩
    by_cases q : i < S.length
    · rw [e2 i q]; exact hf.1 i q
    · have : i = S.length := by omega
      subst this
      rw [e1]
      exact fun z => hf.2 (z ▸ List.mem_cons_self)
  have tup : ∀ a xs, TupAt K al S.length (p :: U) H a xs → TupAt K (ext1 al S.length p) (S.length + 1) U H a xs := fun a xs t => by
    rcases t with ⟨t, f⟩ | t
    · exact .inl ⟨t, off a f⟩
    · exact .inr t
  have reps : ∀ (m : Nat), (∀ d v, sizeOf d < m → Rep K al S.length (p :: U) H d v → Rep K (ext1 al S.length p) (S.length + 1) U H d v) ∧ (∀ ds vs, sizeOf ds < m → Reps K al S.length (p :: U) H ds vs → Reps K (ext1 al S.length p) (S.length + 1) U H ds vs) := by
    intro m
    induction m with
    | zero => exact ⟨fun _ _ h => absurd h (Nat.not_lt_zero _), fun _ _ h => absurd h (Nat.not_lt_zero _)⟩
    | succ m ih =>
      refine ⟨fun d v hd r => ?_, fun ds vs hd r => ?_⟩
      · cases d with
        | tup ds =>
          simp only [Rep] at r ⊢
          obtain ⟨a, vs, e, t, l, r⟩ := r
          exact ⟨a, vs, e, tup _ _ t, l, ih.2 ds vs (by simp at hd; omega) r⟩
        | lst ds =>
          simp only [Rep] at r ⊢
          obtain ⟨a, vs, e, t, l, r⟩ := r
          exact ⟨a, vs, e, t.elim (fun t => .inl ⟨t.1, off _ t.2⟩) .inr, l, ih.2 ds vs (by simp at hd; omega) r⟩
        | ref i =>
          simp only [Rep] at r ⊢
          exact ⟨by omega, by rw [e2 i r.1]; exact r.2⟩
        | non => simp only [Rep] at r ⊢; exact r
        | bl _ => simp only [Rep] at r ⊢; exact r
        | int _ => simp only [Rep] at r ⊢; exact r
        | str _ => simp only [Rep] at r ⊢; exact r
        | fn _ => simp only [Rep] at r ⊢; exact r
        | exc _ => simp only [Rep] at r ⊢; obtain ⟨a, e, C, g1, g2, g3⟩ := r; exact ⟨a, e, C, g1, g2, off _ g3⟩
      · cases ds with
        | nil => simp only [Reps] at r ⊢; exact r
        | cons d ds =>
          simp only [Reps] at r ⊢
          obtain ⟨v, r', e, h1, h2⟩ := r
          exact ⟨v, r', e, ih.1 d v (by simp at hd; omega) h1, ih.2 ds r' (by simp at hd; omega) h2⟩
  have reps' : ∀ (ds : List D) (vs : List V), Reps K al S.length (p :: U) H ds vs → Reps K (ext1 al S.length p) (S.length + 1) U H ds vs := fun ds vs r => (reps (sizeOf ds + 1)).2 ds vs (Nat.lt_succ_self _) r
  refine ⟨⟨fun i j hi hj e => ?_, fun i hi => ?_, fun a ha => h.liv a (List.mem_cons_of_mem _ ha), fun i ob e => ?_⟩, e1⟩
  · rw [hl] at hi hj
    have np : ∀ k, k < S.length → al k ≠ p := fun k hk z => h.off k hk (z ▸ List.mem_cons_self)
    by_cases h1 : i < S.length <;> by_cases h2 : j < S.length
    · rw [e2 i h1, e2 j h2] at e; exact h.inj i j h1 h2 e
    · have : j = S.length := by omega
      subst this
      rw [e2 i h1, e1] at e
      exact absurd e (np i h1)
    · have : i = S.length := by omega
      subst this
      rw [e2 j h2, e1] at e
      exact absurd e.symm (np j h2)
    · omega
  · rw [hl] at hi
    by_cases h1 : i < S.length
    · rw [e2 i h1]; exact fun hm => h.off i h1 (List.mem_cons_of_mem _ hm)
    · have : i = S.length := by omega
      subst this
      rw [e1]
      exact hU
  · rw [hl]
    by_cases h1 : i < S.length
    · rw [List.getElem?_append_left h1] at e
      rw [e2 i h1]
      have q := h.obj i ob e
      cases ob with
      | lst ds => obtain ⟨vs, q, l, r⟩ := q; exact ⟨vs, q, l, reps' _ _ r⟩
      | dct ks vs => obtain ⟨kvs, q, l, r, s, t, w⟩ := q; exact ⟨kvs, q, l, r, reps' _ _ s, t, w⟩
      | dcn ks vs => obtain ⟨xs, bs, us, q, l, r, s⟩ := q; exact ⟨xs, bs, us, q, l, reps' _ _ r, reps' _ _ s⟩
      | ins c fs => obtain ⟨C, dx, us, h1, q, l, r⟩ := q; exact ⟨C, dx, us, h1, q, l, reps' _ _ r⟩
    · have hi : i = S.length := by
        obtain ⟨q, _⟩ := List.getElem?_eq_some_iff.mp e
        rw [hl] at q
        omega
      subst hi
      rw [List.getElem?_append_right (Nat.le_refl _)] at e
      simp at e
      subst e
      rw [e1]
      exact ho reps'
end

/-- {k: v} with a tuple for a key -/
theorem se_dcn1 {X : Cx} {a b : Expr} {pos : Pos} {fa fb : Env → Store → R (D × Store)} (hu : X.A.units + 64 < cLine) (ha : PE X a (tEv X.kw fa)) (hb : PE X b (tEv X.kw fb)) : PE X (.Dict [some a] [b] pos) (tEv X.kw fun rho S => (fa rho S).bind fun p => (fb rho p.2).bind fun q => match keyN p.1 with
    | some _ => .ok (.ref q.2.length, q.2 ++ [.dcn [p.1] [q.1]])
    | none => .bad) := by
  refine ⟨fun pins s σ H Q I h => ?_⟩
  obtain ⟨al, U, S, rho, d, S', sr, er, e, q⟩ := h
  obtain ⟨⟨d1, S1⟩, e1, e⟩ := R.bind_ok e
  obtain ⟨⟨d2, S2⟩, e2, e⟩ := R.bind_ok e
  simp only at e
  split at e
  · rename_i k ek
    cases e
    have hn := I.hok.fresh (Nat.le_refl s.heap.objs.size)
    have hs : (s.heap.objs.size == sysModules) = false := beq_eq_false_iff_ne.mpr (Ne.symm (Nat.ne_of_lt I.big))
    have hU : s.heap.objs.size ∉ U := fun hm => sr.liv _ hm hn
    have I1 := I.laid (a := s.heap.objs.size) (o := .ext (ndP X.w s.heap.objs.size [])) (h' := s.heap.push { cls := .type "dict", data := .dict #[] }) (t' := s.toks) (fun _ _ z => Heap.get?_push_of_some _ z) (Nat.le_refl _) (nd_ok ⟨_, #[], 0, Heap.get?_push_size _ rfl, ⟨rfl, rfl, rfl⟩, rfl, rfl⟩)
    have sr0 := sr.fresh1 hn (.ext (ndP X.w s.heap.objs.size []))
    have w0 : ∀ u ∈ s.heap.objs.size :: U, u ∈ U ∨ H u = none := fun u hm => (List.mem_cons.mp hm).elim (fun z => .inr (by rw [z]; exact hn)) .inl
    have n0 := (sr.lay hn (.ext (ndP X.w s.heap.objs.size []))).1
    have er0 : ER X.kw al S.length (s.heap.objs.size :: U) (upd H s.heap.objs.size (.ext (ndP X.w s.heap.objs.size []))) rho σ := ER.nxt ⟨er.1, fun i d z => let ⟨v, g1, g2⟩ := er.2 i d z; ⟨v, g1, Rep.widen w0 _ _ g2⟩⟩ n0
    have hp0 : upd H s.heap.objs.size (.ext (ndP X.w s.heap.objs.size [])) s.heap.objs.size = some (.ext (ndP X.w s.heap.objs.size [])) := upd_same
    generalize hH0 : upd H s.heap.objs.size (.ext (ndP X.w s.heap.objs.size [])) = H0 at I1 sr0 n0 er0 hp0
    have hP0 : s.heap.objs.size = s.heap.objs.size := rfl
    generalize hP : s.heap.objs.size = p at hn hs hU sr0 w0 n0 er0 hp0 hH0
    have npal : ∀ {alz : Nat → Addr} {Sz : Store} {Hz : Hp}, SR X.kw alz (p :: U) Sz Hz → ∀ j, j < Sz.length → p ≠ alz j := fun sz j hj z => sz.off j hj (by rw [← z]; exact List.mem_cons_self)
    rw [arm_eval_Dict, zip_pairTrees [some a] [b] X.env pos rfl rfl, dictDisplay_pairs (pairTrees [some a] [b] X.env pos) (fun z => by simp [pairTrees] at z) (show 1 < 17 by omega)]
    refine wpAny_bind (wpAny_standAt (wpAny_bind (wpAny_subDictH (knd := nestedKind X.prog X.w) (by show X.A.units + 8 < cLine; omega) (show 1 ≤ 15 by omega) ?_)))
    rw [hP]
    refine pairTrees_cons_walk (thn (ha.run pins _ σ H0 (fun v1 H1 => ∃ al1, Nxt al S.length H0 al1 S1.length H1 ∧ SR X.kw al1 (p :: U) S1 H1 ∧ Rep X.kw al1 S1.length (p :: U) H1 d1 v1) I1 ⟨al, _, S, rho, d1, S1, sr0, er0, e1, fun v1 H1 al1 n1 sr1 r1 => ⟨al1, n1, sr1, r1⟩⟩) fun u1 s1 hh1 => ?_)
    obtain ⟨x1, H1, I2, ru1, al1, n1, sr1, r1⟩ := hh1
    refine thn (hb.run pins s1 σ H1 (fun v2 H2 => ∃ al2, Nxt al1 S1.length H1 al2 S2.length H2 ∧ SR X.kw al2 (p :: U) S2 H2 ∧ Rep X.kw al2 S2.length (p :: U) H2 d2 v2) I2 ⟨al1, _, S1, rho, d2, S2, sr1, er0.nxt n1, e2, fun v2 H2 al2 n2 sr2 r2 => ⟨al2, n2, sr2, r2⟩⟩) fun u2 s2 hh2 => ?_
    obtain ⟨x2, H2, I3, ru2, al2, n2, sr2, r2⟩ := hh2
    refine pairTrees_nil_walk ?_
    have r1' := Rep.nxt n2 _ _ r1
    obtain ⟨bk, ex1, eu1, hkey⟩ := keyN_is I3 r1' ru1 ek
    subst ex1 eu1
    have hp1 : H1 p = some (.ext (ndP X.w p [])) := n1.ext _ _ hp0 (npal sr0)
    have hp2 : H2 p = some (.ext (ndP X.w p [])) := n2.ext _ _ hp1 (npal sr1)
    obtain ⟨o, es, ep, g1, g2, g3, g4⟩ := (show ObjOk X.prog X.w H2 s2.heap p (.ext (ndP X.w p [])) from I3.hok p _ hp2).1
    refine ⟨[(k, bk, u2)], ⟨rfl, rfl, hkey, trivial⟩, ⟨o, es, ep, g1, g2, g3, g4, fun x hx => (nomatch hx), List.nodup_nil⟩, fun h' tk dd' hs' => ?_⟩
    obtain ⟨o', es', ep', f1, f2, f3, f4, _, _⟩ := dd'
    have I4 : Inv X pins σ (upd H2 p (.ext (ndP X.w p [(k, bk, u2)]))) { s2 with heap := h', toks := tk } := d_write I3 (by rw [hp2]; exact True.intro) hs' ⟨o', f1⟩ (nd_ok ⟨o', es', ep', f1, f2, f3, f4⟩)
    have sr3 : SR X.kw al2 (p :: U) S2 (upd H2 p (.ext (ndP X.w p [(k, bk, u2)]))) := sr2.touch List.mem_cons_self
    have hx : ∀ a' o', H2 a' = some o' → a' ∉ p :: U → upd H2 p (.ext (ndP X.w p [(k, bk, u2)])) a' = some o' := fun a' o' z1 z2 => (upd_ne fun z3 => z2 (by rw [z3]; exact List.mem_cons_self)).trans z1
    obtain ⟨sa, ea⟩ := sr3.adopt hU (o := .dcn [d1] [d2]) fun gr => ⟨[(k, bk, u2)], [.ref bk], [x2], upd_same, ⟨hs, (by show 1 ≤ sizeLine; decide), by simp, by simp [ek], rfl, .cons ru2 .nil⟩,
      gr [d1] [.ref bk] (by simp only [Reps]; exact ⟨_, _, rfl, Rep.touch hx _ _ r1', rfl⟩), gr [d2] [x2] (by simp only [Reps]; exact ⟨_, _, rfl, Rep.touch hx _ _ r2, rfl⟩)⟩
    have e2' : ∀ i, i < S2.length → ext1 al2 S2.length p i = al2 i := fun i hi => if_neg (by omega)
    have n02 := sr1.trans (sr0.trans n0 n1) n2
    have nad : Nxt al S.length H (ext1 al2 S2.length p) (S2 ++ [O.dcn [d1] [d2]]).length (upd H2 p (.ext (ndP X.w p [(k, bk, u2)]))) := by
      refine ⟨fun a' o' z1 z2 => ?_, by simp only [List.length_append, List.length_singleton]; have := n02.le; omega, fun i hi => ?_, fun i h1 h2 => ?_⟩
      · rw [upd_ne (fun z3 => by rw [z3, hn] at z1; cases z1)]
        exact n02.ext _ _ z1 z2
      · rw [e2' i (Nat.lt_of_lt_of_le hi n02.le)]; exact n02.agr i hi
      · simp only [List.length_append, List.length_singleton] at h2
        by_cases hi : i < S2.length
        · rw [e2' i hi]; exact n02.new i h1 hi
        · have : i = S2.length := by omega
          subst this
          rw [ea]
          exact hn
    refine wpAny_pure ⟨.ref p, _, I4, rfl, q _ _ _ nad sa ?_⟩
    simp only [Rep]
    exact ⟨by simp, by rw [ea]⟩
  · cases e
/-! ### walks -/
def itemI : Itr → Nat → Store → Option D
  | .sq ds, i, _ => ds[i]?
  | .rf n, i, S => match S[n]? with
    | some (.lst ds) => ds[i]?
    | _ => none
  | .zl n bs, i, S => match S[n]? with
    | some (.lst ds) => match ds[i]?, bs[i]? with
      | some d, some b => some (.tup [d, b])
      | _, _ => none
    | _ => none
def stI : Itr → Nat → Store → Prop
  | .sq ds, i, _ => ds.length ≤ i
  | .rf n, i, S => ∃ ds, S[n]? = some (.lst ds) ∧ ds.length ≤ i
  | .zl n bs, i, S => ∃ ds, S[n]? = some (.lst ds) ∧ (ds.length ≤ i ∨ bs.length ≤ i)
def ItOk (K : KW) (U0 : List Addr) (al0 : Nat → Addr) (n0 : Nat) (H0 : Hp) (J : It) (it : Itr) : Prop := ∀ (i : Nat) (al : Nat → Addr) (U : List Addr) (S : Store) (H : Hp),
  (∀ u ∈ U, u ∈ U0 ∨ H0 u = none) → SR K al U S H → Nxt al0 n0 H0 al S.length H →
  (∀ d, itemI it i S = some d → i < sizeLine ∧ J.go i H ∧ ∀ x H', J.yld i H x H' → Nxt al S.length H al S.length H' ∧ SR K al U S H' ∧ Rep K al S.length U H' d x) ∧ (stI it i S → J.stop i H)
def tEvI (K : KW) (f : Env → Store → R (Itr × Store)) : TI := fun σ H Rr => ∃ al U S rho it S',
  SR K al U S H ∧ ER K al S.length U H rho σ ∧ f rho S = .ok (it, S') ∧
  ∀ J H' al', Nxt al S.length H al' S'.length H' → SR K al' U S' H' → ItOk K U al' S'.length H' J it → Rr J H'
section
variable {K : KW} {al0 : Nat → Addr} {n0 : Nat} {U0 : List Addr} {H0 : Hp}
theorem ItOk.lst {a : Addr} {vs : List V} {ds : List D} (t : LstAt K al0 n0 U0 H0 a vs) (l : ds.length ≤ sizeLine) (r : Reps K al0 n0 U0 H0 ds vs) : ItOk K U0 al0 n0 H0 (Itl K a) (.sq ds) := by
  intro i al U S H hu sr g
  have t' := ((t.widen hu).nxt g).sq
  have r' := Reps.nxt g _ _ (Reps.widen hu _ _ r)
  refine ⟨fun d e => ?_, fun e => ⟨vs, t', by rw [← r.length]; exact e⟩⟩
  have e : ds[i]? = some d := e
  obtain ⟨v, hv, rv⟩ := r'.get e
  obtain ⟨hi, _⟩ := List.getElem?_eq_some_iff.mp e
  refine ⟨Nat.lt_of_lt_of_le hi l, ⟨vs, v, t', hv⟩, fun x H' hy => ?_⟩
  obtain ⟨rfl, hy⟩ := hy
  have := hy vs t'
  rw [hv] at this
  cases this
  exact ⟨.refl, sr, rv⟩
theorem ItOk.tup {a : Addr} {vs : List V} {ds : List D} (t : TupAt K al0 n0 U0 H0 a vs) (l : ds.length ≤ sizeLine) (r : Reps K al0 n0 U0 H0 ds vs) : ItOk K U0 al0 n0 H0 (Itt K a) (.sq ds) := by
  intro i al U S H hu sr g
  have t' := ((t.widen hu).nxt g).sq
  have r' := Reps.nxt g _ _ (Reps.widen hu _ _ r)
  refine ⟨fun d e => ?_, fun e => ⟨vs, t', by rw [← r.length]; exact e⟩⟩
  have e : ds[i]? = some d := e
  obtain ⟨v, hv, rv⟩ := r'.get e
  obtain ⟨hi, _⟩ := List.getElem?_eq_some_iff.mp e
  refine ⟨Nat.lt_of_lt_of_le hi l, ⟨vs, v, t', hv⟩, fun x H' hy => ?_⟩
  obtain ⟨rfl, hy⟩ := hy
  have := hy vs t'
  rw [hv] at this
  cases this
  exact ⟨.refl, sr, rv⟩
theorem ItOk.txt {x : List Char} (l : x.length ≤ sizeLine) : ItOk K U0 al0 n0 H0 (Its (toS x)) (.sq (x.map fun c => .str [c])) := by
  intro i al U S H hu sr g
  have hz : (toS x).cps.size = x.length := toS_length x
  refine ⟨fun d e => ?_, fun e => ?_⟩
  · have e : (x.map fun c => D.str [c])[i]? = some d := e
    rw [List.getElem?_map] at e
    cases hc : x[i]? with
    | none => rw [hc] at e; cases e
    | some c =>
      rw [hc] at e
      cases e
      obtain ⟨hi, _⟩ := List.getElem?_eq_some_iff.mp hc
      refine ⟨Nat.lt_of_lt_of_le hi l, ?_, fun v H' hy => ?_⟩
      · show i < (toS x).cps.size
        rw [hz]; exact hi
      · obtain ⟨rfl, c', h1, rfl⟩ := hy
        have h2 : (toS x).cps[i]? = some c.toNat := by
          show (x.map Char.toNat).toArray[i]? = _
          simp [hc]
        rw [h2] at h1
        cases h1
        refine ⟨.refl, sr, ?_⟩
        simp only [Rep]
        exact ⟨rfl, (by decide : 1 ≤ sizeLine)⟩
  · show (toS x).cps.size ≤ i
    rw [hz]
    have e : (x.map fun c => D.str [c]).length ≤ i := e
    simpa using e
theorem rangeD_get : ∀ (n : Nat) (lo : Int) (i : Nat), (rangeD lo n)[i]? = if i < n then some (D.int (lo + i)) else none
  | 0, lo, i => by simp [rangeD]
  | n + 1, lo, 0 => by simp [rangeD]
  | n + 1, lo, i + 1 => by
    rw [rangeD, List.getElem?_cons_succ, rangeD_get n (lo + 1) i]
    by_cases h : i < n
    · rw [if_pos h, if_pos (by omega)]
      congr 2
      push_cast
      omega
    · rw [if_neg h, if_neg (by omega)]
theorem rangeD_length : ∀ (n : Nat) (lo : Int), (rangeD lo n).length = n
  | 0, _ => rfl
  | n + 1, lo => by rw [rangeD, List.length_cons, rangeD_length n]
theorem ItOk.rng {lo : Int} {n : Nat} (l : n ≤ sizeLine) : ItOk K U0 al0 n0 H0 (L2.Itr lo n) (.sq (rangeD lo n)) := by
  intro i al U S H hu sr g
  refine ⟨fun d e => ?_, fun e => ?_⟩
  · have e : (rangeD lo n)[i]? = some d := e
    rw [rangeD_get] at e
    split at e
    · rename_i hi
      cases e
      refine ⟨Nat.lt_of_lt_of_le hi l, hi, fun v H' hy => ?_⟩
      obtain ⟨rfl, rfl⟩ := hy
      exact ⟨.refl, sr, by simp only [Rep]⟩
    · cases e
  · have e : (rangeD lo n).length ≤ i := e
    rw [rangeD_length] at e
    exact e
theorem rangeC_get : ∀ (n : Nat) (lo c : Int) (i : Nat), (rangeC lo c n)[i]? = if i < n then some (D.int (lo + i * c)) else none
  | 0, lo, c, i => by simp [rangeC]
  | n + 1, lo, c, 0 => by simp [rangeC]
  | n + 1, lo, c, i + 1 => by
    rw [rangeC, List.getElem?_cons_succ, rangeC_get n (lo + c) c i]
    by_cases h : i < n
    · rw [if_pos h, if_pos (by omega)]
      congr 2
      have : ((i + 1 : Nat) : Int) * c = i * c + c := by push_cast; rw [Int.add_mul, Int.one_mul]
      rw [this]
      omega
    · rw [if_neg h, if_neg (by omega)]
theorem rangeC_length : ∀ (n : Nat) (lo c : Int), (rangeC lo c n).length = n
  | 0, _, _ => rfl
  | n + 1, lo, c => by rw [rangeC, List.length_cons, rangeC_length n]
theorem ItOk.rngC {lo c : Int} {n : Nat} (l : n ≤ sizeLine) : ItOk K U0 al0 n0 H0 (Itc lo c n) (.sq (rangeC lo c n)) := by
  intro i al U S H hu sr g
  refine ⟨fun d e => ?_, fun e => ?_⟩
  · have e : (rangeC lo c n)[i]? = some d := e
    rw [rangeC_get] at e
    split at e
    · rename_i hi
      cases e
      refine ⟨Nat.lt_of_lt_of_le hi l, hi, fun v H' hy => ?_⟩
      obtain ⟨rfl, rfl⟩ := hy
      exact ⟨.refl, sr, by simp only [Rep]⟩
    · cases e
  · have e : (rangeC lo c n).length ≤ i := e
    rw [rangeC_length] at e
    exact e
theorem ItOk.ref {S0 : Store} {m : Nat} {es : List D} (sr0 : SR K al0 U0 S0 H0) (hm : S0[m]? = some (.lst es)) : ItOk K U0 al0 S0.length H0 (Itl K (al0 m)) (.rf m) := by
  intro i al U S H hu sr g
  have hml : m < S0.length := by
    obtain ⟨q, _⟩ := List.getElem?_eq_some_iff.mp hm
    exact q
  have ea : al m = al0 m := g.agr m hml
  refine ⟨fun d e => ?_, fun e => ?_⟩
  · unfold itemI at e
    simp only at e
    split at e
    · rename_i ds eo
      obtain ⟨vs, h1, l, r⟩ := sr.obj m _ eo
      rw [ea] at h1
      obtain ⟨v, hv, rv⟩ := r.get e
      obtain ⟨hi, _⟩ := List.getElem?_eq_some_iff.mp e
      refine ⟨Nat.lt_of_lt_of_le hi l, ⟨vs, v, SqL.of h1, hv⟩, fun x H' hy => ?_⟩
      obtain ⟨rfl, hy⟩ := hy
      have := hy vs (SqL.of h1)
      rw [hv] at this
      cases this
      exact ⟨.refl, sr, rv⟩
    · cases e
  · obtain ⟨ds, eo, hl⟩ := e
    obtain ⟨vs, h1, l, r⟩ := sr.obj m _ eo
    rw [ea] at h1
    exact ⟨vs, SqL.of h1, by rw [← r.length]; exact hl⟩
end
section
variable {X : Cx} {tg : Expr}
def iAny (K : KW) (te : TE) : TI := fun σ H R => te σ H fun x H1 => (∃ a xs, x = .ref a ∧ SqL K H1 a xs ∧ R (Itl K a) H1) ∨ (∃ a xs, x = .ref a ∧ SqT K H1 a xs ∧ R (Itt K a) H1) ∨ ∃ z, x = .str z ∧ R (Its z) H1
theorem pi_any {l : Expr} {tl : TE} (hl : PE X l tl) : PI X tg l (iAny X.kw tl) := by
  refine ⟨fun pins s σ H R I h => ?_⟩
  refine thn (hl.run pins s σ H _ I h) fun v s1 ⟨x, H1, I1, r1, q1⟩ => ?_
  rcases q1 with ⟨a, xs, e, hq, q⟩ | ⟨a, xs, e, hq, q⟩ | ⟨z, e, q⟩
  · subst e
    cases r1
    obtain ⟨its, rv, p, hz⟩ := I1.list hq
    refine wpAny_pyIter_list p.isList ?_
    refine ⟨s1.heap.objs.size, [s1.heap.objs.size], _, _, H1, rfl, I1.kept (t' := s1.toks) fun b o e => Heap.get?_push_of_some _ e, turn_list a _, ⟨_, Heap.get?_push_size _ rfl, rfl, rfl⟩, fun b hb => ?_, q⟩
    have e : b = s1.heap.objs.size := by simpa using hb
    subst e
    exact I1.fpOk (Nat.le_refl _) (I1.hok.fresh (Nat.le_refl _))
  · subst e
    cases r1
    obtain ⟨its, rv, p, hz⟩ := I1.tuple hq
    refine wpAny_pyIter_tuple (show s1.heap.IsTuple a its.toArray from p) ?_
    refine ⟨s1.heap.objs.size, [s1.heap.objs.size], _, _, H1, rfl, I1.kept (t' := s1.toks) fun b o e => Heap.get?_push_of_some _ e, turn_tuple a _, ⟨_, Heap.get?_push_size _ rfl, rfl, rfl⟩, fun b hb => ?_, q⟩
    have e : b = s1.heap.objs.size := by simpa using hb
    subst e
    exact I1.fpOk (Nat.le_refl _) (I1.hok.fresh (Nat.le_refl _))
  · subst e
    obtain ⟨t, rfl⟩ := r1
    cases ha : z.cps.all (· < 128)
    · exact wpAny_pyIter_wide ha (pi_one (tk := s1.toks) I1 _ (turn_str _ z t "str_iterator" (.inr rfl)) ⟨_, Heap.get?_push_size _ rfl, rfl, rfl⟩ q)
    · exact wpAny_pyIter_ascii ha (pi_one (tk := s1.toks) I1 _ (turn_str _ z t "str_ascii_iterator" (.inl rfl)) ⟨_, Heap.get?_push_size _ rfl, rfl, rfl⟩ q)
theorem pi_weak {e : Expr} {t t' : TI} (h : PI X tg e t) (w : ∀ σ H Q, t' σ H Q → t σ H Q) : PI X tg e t' := ⟨fun pins s σ H R I q => h.run pins s σ H R I (w _ _ _ q)⟩
variable {a b : Expr} {fa fb : Env → Store → R (D × Store)} {fs : Env → Store → R (List D × Store)} {p pos : Pos}
theorem si_sq (ha : PE X a (tEv X.kw fa)) : PI X tg a (tEvI X.kw fun rho S => (fa rho S).bind fun p => (itrD .sq [p.1] p.2).bind fun it => .ok (it, p.2)) := by
  refine pi_weak (pi_any ha) fun σ H Q ⟨al, U, S, rho, it, S', sr, er, e, q⟩ => ?_
  obtain ⟨⟨d1, S1⟩, e1, e⟩ := R.bind_ok e
  obtain ⟨it', e2, e⟩ := R.bind_ok e
  cases e
  refine ⟨al, U, S, rho, d1, _, sr, er, e1, fun v1 H1 al1 n1 sr1 r1 => ?_⟩
  cases d1 with
  | str x =>
    cases e2
    simp only [Rep] at r1
    exact .inr (.inr ⟨_, r1.1, q _ _ _ n1 sr1 (ItOk.txt r1.2)⟩)
  | tup ds =>
    cases e2
    simp only [Rep] at r1
    obtain ⟨p, vs, rfl, t, l, r⟩ := r1
    exact .inr (.inl ⟨p, vs, rfl, t.sq, q _ _ _ n1 sr1 (ItOk.tup t l r)⟩)
  | lst ds =>
    cases e2
    simp only [Rep] at r1
    obtain ⟨p, vs, rfl, t, l, r⟩ := r1
    exact .inl ⟨p, vs, rfl, t.sq, q _ _ _ n1 sr1 (ItOk.lst t l r)⟩
  | fn _ => cases e2
  | exc _ => cases e2
  | ref m =>
    simp only [itrD] at e2
    split at e2
    · rename_i es eo
      cases e2
      simp only [Rep] at r1
      obtain ⟨hm, rfl⟩ := r1
      obtain ⟨vs, h1, l, r⟩ := sr1.obj m _ eo
      exact .inl ⟨_, vs, rfl, SqL.of h1, q _ _ _ n1 sr1 (ItOk.ref sr1 eo)⟩
    · cases e2
  | non => cases e2
  | bl _ => cases e2
  | int _ => cases e2
theorem si_rng1 (hg : Gl X "range") (hm : X.mg "range" = none) (ha : PA X [a] (tEvs X.kw fs)) (hs : starEach [a] X.env = [(false, eval a X.env)]) :
    PI X tg (.Call (.Name "range" p) [a] [] pos) (tEvI X.kw fun rho S => (fs rho S).bind fun p => (itrD .rng1 p.1 p.2).bind fun it => .ok (it, p.2)) := by
  refine pi_weak (pi_range1 hg hm ha hs) fun σ H Q ⟨al, U, S, rho, it, S', sr, er, e, q⟩ => ?_
  obtain ⟨⟨d1, S1⟩, e1, e⟩ := R.bind_ok e
  obtain ⟨it', e2, e⟩ := R.bind_ok e
  cases e
  refine ⟨al, U, S, rho, d1, _, sr, er, e1, fun v1 H1 al1 n1 sr1 r1 => ?_⟩
  simp only [itrD] at e2
  split at e2 <;> try (first | cases e2 | (rename_i h; cases h))
  · rename_i j _
    split at e2
    · rename_i hj
      cases e2
      simp only [Reps, Rep] at r1
      obtain ⟨v, r, rfl, rfl, rfl⟩ := r1
      have hz : sizeLine = 16777216 := by decide
      exact ⟨j, rfl, by omega, by omega, q _ _ _ n1 sr1 (ItOk.rng (by omega))⟩
    · cases e2
theorem si_rng2 (hg : Gl X "range") (hm : X.mg "range" = none) (ha : PA X [a, b] (tEvs X.kw fs)) (hs : starEach [a, b] X.env = [(false, eval a X.env), (false, eval b X.env)]) (hs2 : starEach [b] X.env = [(false, eval b X.env)]) :
    PI X tg (.Call (.Name "range" p) [a, b] [] pos) (tEvI X.kw fun rho S => (fs rho S).bind fun p => (itrD .rng2 p.1 p.2).bind fun it => .ok (it, p.2)) := by
  refine pi_weak (pi_range2 hg hm ha hs hs2) fun σ H Q ⟨al, U, S, rho, it, S', sr, er, e, q⟩ => ?_
  obtain ⟨⟨d1, S1⟩, e1, e⟩ := R.bind_ok e
  obtain ⟨it', e2, e⟩ := R.bind_ok e
  cases e
  refine ⟨al, U, S, rho, d1, _, sr, er, e1, fun v1 H1 al1 n1 sr1 r1 => ?_⟩
  simp only [itrD] at e2
  split at e2
  · rename_i i j _
    split at e2
    · rename_i hj
      cases e2
      have ev := int2_rep r1
      exact ⟨i, j, ev, ⟨by omega, by omega, by omega, by omega⟩, q _ _ _ n1 sr1 (ItOk.rng (by omega))⟩
    · cases e2
  · cases e2
theorem upQ {i j c : Int} (hc : 0 < c) (h : i < j) : (j - i + c - 1) / c = (j - i - 1) / c + 1 := by
  have : j - i + c - 1 = (j - i - 1) + c := by omega
  rw [this, Int.add_ediv_of_dvd_right (Int.dvd_refl c), Int.ediv_self (by omega)]
theorem upQ0 {i j c : Int} (hc : 0 < c) (h : ¬ i < j) : (j - i + c - 1) / c ≤ 0 := by
  have := Int.ediv_lt_of_lt_mul hc (show j - i + c - 1 < 1 * c by omega)
  omega
theorem upQ1 {i j c : Int} (hc : 0 < c) (h : i < j) : 0 ≤ (j - i - 1) / c ∧ (j - i - 1) / c ≤ j - i - 1 :=
  ⟨Int.ediv_nonneg (by omega) (by omega), Int.ediv_le_self _ (by omega)⟩
theorem rangeSize_up {i j c : Int} (hc : 0 < c) : Builtin.Range.rangeSize i j c = (((j - i + c - 1) / c).toNat : Nat) := by
  unfold Builtin.Range.rangeSize
  rw [if_pos hc]
  split
  · rename_i h
    rw [upQ hc h]
    have := upQ1 hc h
    omega
  · rename_i h
    have := upQ0 hc h
    omega
theorem small_up {i j c : Int} (h1 : -(2 ^ 61) ≤ i) (h2 : i < 2 ^ 61) (h3 : -(2 ^ 61) ≤ j) (h4 : j < 2 ^ 61) (hc : 0 < c) (hc2 : c < 1073741824) : Builtin.Range.small i j c = true := by
  unfold Builtin.Range.small Builtin.Range.rangeSize
  rw [if_pos hc]
  simp only [Builtin.Range.rangeFitsLong, Bool.and_eq_true, Bool.or_eq_true, decide_eq_true_eq, beq_iff_eq, show c > 0 from hc, if_true]
  split
  · rename_i h
    have := upQ1 hc h
    omega
  · omega
theorem upN {i j c : Int} (hc : 0 < c) (h : j - i ≤ (sizeLine : Int)) : ((j - i + c - 1) / c).toNat ≤ sizeLine := by
  by_cases h' : i < j
  · rw [upQ hc h']
    have := upQ1 hc h'
    omega
  · have := upQ0 hc h'
    omega
theorem si_rng3 {c : Expr} (hg : Gl X "range") (hm : X.mg "range" = none) (ha : PA X [a, b, c] (tEvs X.kw fs)) (hs : starEach [a, b, c] X.env = (false, eval a X.env) :: starEach [b, c] X.env) (hpl : (backTo pos (starEach [b, c] X.env)).any (·.1) = false) :
    PI X tg (.Call (.Name "range" p) [a, b, c] [] pos) (tEvI X.kw fun rho S => (fs rho S).bind fun p => (itrD .rng3 p.1 p.2).bind fun it => .ok (it, p.2)) := by
  refine pi_weak (pi_range3 hg hm ha hs hpl) fun σ H Q ⟨al, U, S, rho, it, S', sr, er, e, q⟩ => ?_
  obtain ⟨⟨d1, S1⟩, e1, e⟩ := R.bind_ok e
  obtain ⟨it', e2, e⟩ := R.bind_ok e
  cases e
  refine ⟨al, U, S, rho, d1, _, sr, er, e1, fun v1 H1 al1 n1 sr1 r1 => ?_⟩
  simp only [itrD] at e2
  split at e2
  · rename_i i j k _
    split at e2
    · rename_i hj
      cases e2
      simp only [Reps, Rep] at r1
      obtain ⟨v, r, rfl, rfl, v2, r2, rfl, rfl, v3, r3, rfl, rfl, rfl⟩ := r1
      refine ⟨i, j, k, ((j - i + k - 1) / k).toNat, rfl, ⟨by omega, by omega, ?_, rangeSize_up (by omega)⟩, q _ _ _ n1 sr1 (ItOk.rngC ?_)⟩
      · exact small_up (by omega) (by omega) (by omega) (by omega) (by omega) (by omega)
      · exact upN (by omega) (by omega)
    · cases e2
  · cases e2
/-! ### zip of two tuples -/
theorem zipD_get : ∀ (as bs : List D) (i : Nat) (d : D), (zipD as bs)[i]? = some d → ∃ x y, as[i]? = some x ∧ bs[i]? = some y ∧ d = .tup [x, y]
  | [], _, i, d, h => by simp [zipD] at h
  | _ :: _, [], i, d, h => by simp [zipD] at h
  | a :: as, b :: bs, 0, d, h => by
    simp [zipD] at h
    exact ⟨a, b, rfl, rfl, h.symm⟩
  | a :: as, b :: bs, i + 1, d, h => by
    have h : (zipD as bs)[i]? = some d := by simpa [zipD] using h
    obtain ⟨x, y, h1, h2, h3⟩ := zipD_get as bs i d h
    exact ⟨x, y, by simpa using h1, by simpa using h2, h3⟩
theorem zipD_length : ∀ (as bs : List D), (zipD as bs).length = min as.length bs.length
  | [], bs => by simp [zipD]
  | a :: as, [] => by simp [zipD]
  | a :: as, b :: bs => by
    rw [zipD, List.length_cons, zipD_length as bs, List.length_cons, List.length_cons]
    omega
def AtK (t : Bool) (K : KW) (al : Nat → Addr) (n : Nat) (U : List Addr) (H : Hp) (a : Addr) (xs : List V) : Prop := match t with
  | false => LstAt K al n U H a xs
  | true => TupAt K al n U H a xs
theorem AtK.sq {t : Bool} {K : KW} {al : Nat → Addr} {n : Nat} {U : List Addr} {H : Hp} {a : Addr} {xs : List V} (h : AtK t K al n U H a xs) : SqK t K H a xs := by
  cases t with
  | false => exact LstAt.sq h
  | true => exact TupAt.sq h
theorem AtK.mv {t : Bool} {K : KW} {al al' : Nat → Addr} {n n' : Nat} {U U' : List Addr} {H H' : Hp} {a : Addr} {xs : List V} (h : AtK t K al n U H a xs) (hu : ∀ u ∈ U', u ∈ U ∨ H u = none) (g : Nxt al n H al' n' H') : AtK t K al' n' U' H' a xs := by
  cases t with
  | false => exact (LstAt.widen h hu).nxt g
  | true => exact (TupAt.widen h hu).nxt g
theorem ItOk.zip2 {K : KW} {t t' : Bool} {al0 : Nat → Addr} {n0 : Nat} {U0 : List Addr} {H0 : Hp} {a b : Addr} {vs ws : List V} {as bs : List D} (ta : AtK t K al0 n0 U0 H0 a vs) (tb : AtK t' K al0 n0 U0 H0 b ws) (l : as.length ≤ sizeLine) (ra : Reps K al0 n0 U0 H0 as vs) (rb : Reps K al0 n0 U0 H0 bs ws) : ItOk K U0 al0 n0 H0 (ItzA K t t' a b) (.sq (zipD as bs)) := by
  intro i al U S H hu sr g
  have sa := (ta.mv hu g).sq
  have sb := (tb.mv hu g).sq
  have ra' := Reps.nxt g _ _ (Reps.widen hu _ _ ra)
  have rb' := Reps.nxt g _ _ (Reps.widen hu _ _ rb)
  refine ⟨fun d e => ?_, fun e => ⟨vs, ws, sa, sb, ?_⟩⟩
  · obtain ⟨x, y, ex, ey, rfl⟩ := zipD_get as bs i d e
    obtain ⟨v, hv, rv⟩ := ra'.get ex
    obtain ⟨w, hw, rw'⟩ := rb'.get ey
    refine ⟨Nat.lt_of_lt_of_le (List.getElem?_eq_some_iff.mp ex).1 l, ⟨vs, ws, v, w, sa, sb, hv, hw⟩, fun u H' hy => ?_⟩
    obtain ⟨T, ob, v', w', rfl, hT, hd, rfl, f1, f2⟩ := hy
    have e1 := f1 vs sa
    have e2 := f2 ws sb
    rw [hv] at e1
    rw [hw] at e2
    cases e1
    cases e2
    obtain ⟨n1, s1⟩ := sr.lay hT (.frz ob (.tup [v, w]))
    refine ⟨n1, s1, Rep.tup_new (ds := [x, y]) sr hT hd (show 2 ≤ sizeLine by decide) ?_⟩
    simp only [Reps]
    exact ⟨_, _, rfl, Rep.nxt n1 _ _ rv, _, _, rfl, Rep.nxt n1 _ _ rw', rfl⟩
  · have e : (zipD as bs).length ≤ i := e
    rw [zipD_length] at e
    rw [← ra.length, ← rb.length]
    omega
theorem ItOk.zl {K : KW} {t' : Bool} {al0 : Nat → Addr} {U0 : List Addr} {H0 : Hp} {S0 : Store} {m : Nat} {es bs : List D} {b : Addr} {ws : List V} (sr0 : SR K al0 U0 S0 H0) (hm : S0[m]? = some (.lst es)) (tb : AtK t' K al0 S0.length U0 H0 b ws) (rb : Reps K al0 S0.length U0 H0 bs ws) : ItOk K U0 al0 S0.length H0 (ItzA K false t' (al0 m) b) (.zl m bs) := by
  intro i al U S H hu sr g
  have hml : m < S0.length := by
    obtain ⟨q, _⟩ := List.getElem?_eq_some_iff.mp hm
    exact q
  have ea : al m = al0 m := g.agr m hml
  have sb := (tb.mv hu g).sq
  have rb' := Reps.nxt g _ _ (Reps.widen hu _ _ rb)
  refine ⟨fun d e => ?_, fun e => ?_⟩
  · unfold itemI at e
    simp only at e
    split at e
    · rename_i ds eo
      split at e
      · rename_i x y ex ey
        cases e
        obtain ⟨vs, h1, l, r⟩ := sr.obj m _ eo
        rw [ea] at h1
        have sa : SqK false K H (al0 m) vs := SqL.of h1
        obtain ⟨v, hv, rv⟩ := r.get ex
        obtain ⟨w, hw, rw'⟩ := rb'.get ey
        refine ⟨Nat.lt_of_lt_of_le (List.getElem?_eq_some_iff.mp ex).1 l, ⟨vs, ws, v, w, sa, sb, hv, hw⟩, fun u H' hy => ?_⟩
        obtain ⟨T, ob, v', w', rfl, hT, hd, rfl, f1, f2⟩ := hy
        have e1 := f1 vs sa
        have e2 := f2 ws sb
        rw [hv] at e1
        rw [hw] at e2
        cases e1
        cases e2
        obtain ⟨n1, s1⟩ := sr.lay hT (.frz ob (.tup [v, w]))
        refine ⟨n1, s1, Rep.tup_new (ds := [x, y]) sr hT hd (show 2 ≤ sizeLine by decide) ?_⟩
        simp only [Reps]
        exact ⟨_, _, rfl, Rep.nxt n1 _ _ rv, _, _, rfl, Rep.nxt n1 _ _ rw', rfl⟩
      · cases e
    · cases e
  · obtain ⟨ds, eo, hl⟩ := e
    obtain ⟨vs, h1, l, r⟩ := sr.obj m _ eo
    rw [ea] at h1
    refine ⟨vs, ws, SqL.of h1, sb, ?_⟩
    rw [← r.length, ← rb.length]
    exact hl
theorem ItOk.enum {K : KW} {al0 : Nat → Addr} {n0 : Nat} {U0 : List Addr} {H0 : Hp} {a : Addr} {vs : List V} {ds : List D} (ta : TupAt K al0 n0 U0 H0 a vs) (l : ds.length ≤ sizeLine) (ra : Reps K al0 n0 U0 H0 ds vs) : ItOk K U0 al0 n0 H0 (IteA K a) (.sq (zipD (rangeD 0 ds.length) ds)) := by
  intro i al U S H hu sr g
  have sa : SqT K H a vs := TupAt.sq ((TupAt.widen ta hu).nxt g)
  have ra' := Reps.nxt g _ _ (Reps.widen hu _ _ ra)
  refine ⟨fun d e => ?_, fun e => ⟨vs, sa, ?_⟩⟩
  · obtain ⟨x, y, ex, ey, rfl⟩ := zipD_get _ ds i d e
    rw [rangeD_get] at ex
    have hi : i < ds.length := (List.getElem?_eq_some_iff.mp ey).1
    rw [if_pos hi] at ex
    cases ex
    obtain ⟨v, hv, rv⟩ := ra'.get ey
    refine ⟨Nat.lt_of_lt_of_le hi l, ⟨vs, v, sa, hv⟩, fun u H' hy => ?_⟩
    obtain ⟨T, ob, v', rfl, hT, hd, rfl, f1⟩ := hy
    have e1 := f1 vs sa
    rw [hv] at e1
    cases e1
    obtain ⟨n1, s1⟩ := sr.lay hT (.frz ob (.tup [.int (i : Nat), v]))
    refine ⟨n1, s1, Rep.tup_new (ds := [.int (0 + (i : Int)), y]) sr hT hd (show 2 ≤ sizeLine by decide) ?_⟩
    simp only [Reps]
    exact ⟨_, _, rfl, by simp only [Rep, Int.zero_add], _, _, rfl, Rep.nxt n1 _ _ rv, rfl⟩
  · have e : (zipD (rangeD 0 ds.length) ds).length ≤ i := e
    rw [zipD_length, rangeD_length] at e
    rw [← ra.length]
    omega
theorem si_enum {elts : List Expr} {kk : Nat} {tpos : Pos} (hg : Gl X "enumerate") (hm : X.mg "enumerate" = none) (ha : PA X [a] (tEvs X.kw fs)) (hs : starEach [a] X.env = [(false, eval a X.env)]) :
    PI X (.Tuple elts kk tpos) (.Call (.Name "enumerate" p) [a] [] pos) (tEvI X.kw fun rho S => (fs rho S).bind fun p => (itrD .enum p.1 p.2).bind fun it => .ok (it, p.2)) := by
  refine pi_weak (pi_ea hg hm ha hs) fun σ H Q ⟨al, U, S, rho, it, S', sr, er, e, q⟩ => ?_
  obtain ⟨⟨d1, S1⟩, e1, e⟩ := R.bind_ok e
  obtain ⟨it', e2, e⟩ := R.bind_ok e
  cases e
  refine ⟨al, U, S, rho, d1, _, sr, er, e1, fun v1 H1 al1 n1 sr1 r1 => ?_⟩
  simp only [itrD] at e2
  split at e2
  · cases e2
    simp only [Reps, Rep] at r1
    obtain ⟨v, _, rfl, ⟨pa, vs, rfl, ta, la, ra⟩, rfl⟩ := r1
    exact ⟨pa, vs, rfl, TupAt.sq ta, q _ _ _ n1 sr1 (ItOk.enum ta la ra)⟩
  · cases e2
theorem si_zip2 {elts : List Expr} {kk : Nat} {tpos : Pos} (hc : X.calm = true) (hg : Gl X "zip") (hm : X.mg "zip" = none) (ha : PA X [a, b] (tEvs X.kw fs)) (hs : starEach [a, b] X.env = (false, eval a X.env) :: starEach [b] X.env) (hpl : (backTo pos (starEach [b] X.env)).any (·.1) = false) :
    PI X (.Tuple elts kk tpos) (.Call (.Name "zip" p) [a, b] [] pos) (tEvI X.kw fun rho S => (fs rho S).bind fun p => (itrD .zip2 p.1 p.2).bind fun it => .ok (it, p.2)) := by
  refine pi_weak (pi_za hg hm ha hs hpl) fun σ H Q ⟨al, U, S, rho, it, S', sr, er, e, q⟩ => ?_
  obtain ⟨⟨d1, S1⟩, e1, e⟩ := R.bind_ok e
  obtain ⟨it', e2, e⟩ := R.bind_ok e
  cases e
  refine ⟨al, U, S, rho, d1, _, sr, er, e1, fun v1 H1 al1 n1 sr1 r1 => ?_⟩
  simp only [itrD] at e2
  split at e2
  · cases e2
    simp only [Reps, Rep] at r1
    obtain ⟨v, _, rfl, ⟨pa, vs, rfl, ta, la, ra⟩, w, _, rfl, ⟨pb, ws, rfl, tb, lb, rb⟩, rfl⟩ := r1
    exact ⟨true, true, pa, pb, vs, ws, rfl, ta.sq, tb.sq, q _ _ _ n1 sr1 (ItOk.zip2 (t := true) (t' := true) ta tb la ra rb)⟩
  · cases e2
    simp only [Reps, Rep] at r1
    obtain ⟨v, _, rfl, ⟨pa, vs, rfl, ta, la, ra⟩, w, _, rfl, ⟨pb, ws, rfl, tb, lb, rb⟩, rfl⟩ := r1
    exact ⟨false, true, pa, pb, vs, ws, rfl, ta.sq, tb.sq, q _ _ _ n1 sr1 (ItOk.zip2 (t := false) (t' := true) ta tb la ra rb)⟩
  · cases e2
    simp only [Reps, Rep] at r1
    obtain ⟨v, _, rfl, ⟨pa, vs, rfl, ta, la, ra⟩, w, _, rfl, ⟨pb, ws, rfl, tb, lb, rb⟩, rfl⟩ := r1
    exact ⟨true, false, pa, pb, vs, ws, rfl, ta.sq, tb.sq, q _ _ _ n1 sr1 (ItOk.zip2 (t := true) (t' := false) ta tb la ra rb)⟩
  · cases e2
    simp only [Reps, Rep] at r1
    obtain ⟨v, _, rfl, ⟨pa, vs, rfl, ta, la, ra⟩, w, _, rfl, ⟨pb, ws, rfl, tb, lb, rb⟩, rfl⟩ := r1
    exact ⟨false, false, pa, pb, vs, ws, rfl, ta.sq, tb.sq, q _ _ _ n1 sr1 (ItOk.zip2 (t := false) (t' := false) ta tb la ra rb)⟩
  · split at e2
    · rename_i ds eo
      cases e2
      simp only [Reps, Rep] at r1
      obtain ⟨v, _, rfl, ⟨hm, rfl⟩, w, _, rfl, ⟨pb, ws, rfl, tb, lb, rb⟩, rfl⟩ := r1
      obtain ⟨us, h1, l, r⟩ := sr1.obj _ _ eo
      exact ⟨false, true, _, pb, us, ws, rfl, SqL.of h1, tb.sq, q _ _ _ n1 sr1 (ItOk.zl (t' := true) sr1 eo tb rb)⟩
    · cases e2
  · split at e2
    · rename_i ds eo
      cases e2
      simp only [Reps, Rep] at r1
      obtain ⟨v, _, rfl, ⟨hm, rfl⟩, w, _, rfl, ⟨pb, ws, rfl, tb, lb, rb⟩, rfl⟩ := r1
      obtain ⟨us, h1, l, r⟩ := sr1.obj _ _ eo
      exact ⟨false, false, _, pb, us, ws, rfl, SqL.of h1, tb.sq, q _ _ _ n1 sr1 (ItOk.zl (t' := false) sr1 eo tb rb)⟩
    · cases e2
  · cases e2
end
end Z

set_option Elab.async false
set_option linter.all false
set_option maxRecDepth 100000
set_option maxHeartbeats 4000000
/-! Ev6: comprehensions. -/
namespace Z
open PySem L2 PySem.Spec PyProof.Rows

inductive RunC (f : D → Store → R (List D × Store)) (it : Itr) : Nat → Nat → Store → List D → Store → Prop
  | stop {i : Nat} {S : Store} (h : stI it i S) : RunC f it 0 i S [] S
  | step {k i : Nat} {S S1 S2 : Store} {d : D} {p r : List D} (h : itemI it i S = some d) (e : f d S = .ok (p, S1)) (n : RunC f it k (i + 1) S1 r S2) : RunC f it (k + 1) i S (p ++ r) S2
theorem runL {f : D → Store → R (List D × Store)} : ∀ {ds es : List D} {i : Nat} {S S2 : Store} {r : List D}, es = ds.drop i → i ≤ ds.length → compL f es S = .ok (r, S2) → RunC f (.sq ds) es.length i S r S2
  | ds, [], i, S, S2, r, e, hi, h => by
    cases h
    refine .stop ?_
    show ds.length ≤ i
    have := congrArg List.length e
    simp at this
    omega
  | ds, d :: es, i, S, S2, r, e, hi, h => by
    unfold compL at h
    obtain ⟨⟨p, S1⟩, e1, h⟩ := R.bind_ok h
    obtain ⟨⟨q, S3⟩, e2, h⟩ := R.bind_ok h
    cases h
    have h0 : ds[i]? = some d := by
      have : (ds.drop i)[0]? = some d := by rw [← e]; rfl
      simpa using this
    obtain ⟨hi', _⟩ := List.getElem?_eq_some_iff.mp h0
    have h1 : es = ds.drop (i + 1) := by
      have : (ds.drop i).tail = ds.drop (i + 1) := by simp
      rw [← this, ← e]
      rfl
    exact .step (it := .sq ds) h0 e1 (runL h1 (by omega) e2)
theorem runR {f : D → Store → R (List D × Store)} {n len : Nat} : ∀ {m i : Nat} {S S2 : Store} {r : List D}, i + m = len → compR f n len m i S = .ok (r, S2) → RunC f (.rf n) m i S r S2
  | 0, i, S, S2, r, e, h => by
    unfold compR at h
    split at h
    · rename_i ds eo
      split at h
      · rename_i hl
        cases h
        exact .stop ⟨ds, eo, by omega⟩
      · cases h
    · cases h
  | m + 1, i, S, S2, r, e, h => by
    unfold compR at h
    split at h
    · rename_i ds eo
      split at h
      · rename_i hl
        split at h
        · rename_i d hd
          obtain ⟨⟨p, S1⟩, e1, h⟩ := R.bind_ok h
          obtain ⟨⟨q, S3⟩, e2, h⟩ := R.bind_ok h
          cases h
          refine .step (it := .rf n) ?_ e1 (runR (by omega) e2)
          simp only [itemI, eo]
          exact hd
        · cases h
      · cases h
    · cases h
theorem runI {f : D → Store → R (List D × Store)} {it : Itr} {S S2 : Store} {r : List D} (h : compI f it S = .ok (r, S2)) : ∃ k, RunC f it k 0 S r S2 := by
  cases it with
  | sq ds => exact ⟨_, runL (i := 0) (by simp) (Nat.zero_le _) h⟩
  | rf n =>
    unfold compI at h
    simp only at h
    split at h
    · exact ⟨_, runR (by omega) h⟩
    · cases h
  | zl _ _ => cases h

/-- the names that a loop's target binds, by values -/
def gNames : List Nat → TGs
  | [] => gNil
  | i :: is => gCons (gName i) (gNames is)
def gB (K : KW) (g : List Nat) (one : Bool) : TG := if one then (match g with
    | [i] => gName i
    | _ => fun _ _ _ _ => False) else gTup K g.length (gNames g)
section
variable {K : KW} {al : Nat → Addr} {n : Nat} {U : List Addr} {H : Hp}
theorem gNames_rep : ∀ {g : List Nat} {ds : List D} {vs : List V} {rho : Env} {σ : L2.St} {Q : L2.St → Hp → Prop}, ds.length = g.length → Reps K al n U H ds vs → ER K al n U H rho σ →
    (∀ σ', ER K al n U H ((g.zip ds).foldl (fun rho p => rho.set p.1 (some p.2)) rho) σ' → (∀ j, j ∉ g → σ'[j]? = σ[j]?) → σ'.length = σ.length → Q σ' H) → gNames g vs σ H Q
  | [], ds, vs, rho, σ, Q, hl, rs, er, q => by
    have e : ds = [] := List.eq_nil_of_length_eq_zero hl
    subst e
    simp only [Reps] at rs
    exact ⟨rs, q σ er (fun _ _ => rfl) rfl⟩
  | i :: g, [], vs, rho, σ, Q, hl, rs, er, q => by cases hl
  | i :: g, d :: ds, vs, rho, σ, Q, hl, rs, er, q => by
    simp only [Reps] at rs
    obtain ⟨v, r, rfl, r1, r2⟩ := rs
    refine ⟨v, r, rfl, ?_⟩
    refine gNames_rep (rho := rho.set i (some d)) (by simpa using hl) r2 (er.set r1 i) fun σ' er' h1 h2 => q σ' er' (fun j hj => ?_) (by rw [h2]; simp)
    rw [h1 j (fun z => hj (List.mem_cons_of_mem _ z)), List.getElem?_set_ne (fun z => hj (by rw [← z]; exact List.mem_cons_self))]
theorem gB_rep {g : List Nat} {one : Bool} {d : D} {v : V} {rho rho' : Env} {σ : L2.St} {Q : L2.St → Hp → Prop} (rd : Rep K al n U H d v) (er : ER K al n U H rho σ) (e : bindG g one d rho = .ok rho')
    (q : ∀ σ', ER K al n U H rho' σ' → (∀ j, j ∉ g → σ'[j]? = σ[j]?) → σ'.length = σ.length → Q σ' H) : gB K g one v σ H Q := by
  unfold bindG at e
  unfold gB
  cases one with
  | true =>
    rw [if_pos rfl] at e ⊢
    match g, e with
    | [], e => cases e
    | _ :: _ :: _, e => cases e
    | [i], e =>
      cases e
      exact q _ (er.set rd i) (fun j hj => List.getElem?_set_ne (fun z => hj (by rw [← z]; exact List.mem_cons_self))) (by simp)
  | false =>
    rw [if_neg Bool.false_ne_true] at e ⊢
    cases d with
    | tup ds =>
      simp only at e
      split at e
      · rename_i hl
        cases e
        simp only [Rep] at rd
        obtain ⟨a, vs, rfl, t, l, rs⟩ := rd
        exact ⟨a, vs, rfl, t.sq, by rw [← rs.length]; exact hl, gNames_rep hl rs er q⟩
      · cases e
    | _ => cases e
end
theorem wipe_same {vs : List Nat} {σ σ' : L2.St} (h : ∀ j, j ∉ vs → σ'[j]? = σ[j]?) (hl : σ'.length = σ.length) : wipe σ' vs = wipe σ vs := by
  have ex : ∀ (ws : List Nat) (t : L2.St) (j : Nat), (wipe t ws)[j]? = if j ∈ ws then (if j < t.length then some none else none) else t[j]? := by
    intro ws
    induction ws with
    | nil => intro t j; simp [wipe]
    | cons w ws ih =>
      intro t j
      unfold wipe
      by_cases hj : w = j
      · subst hj
        by_cases hw : w < (wipe t ws).length
        · rw [List.getElem?_set_self hw]
          rw [wipe_length] at hw
          simp [hw]
        · rw [List.getElem?_eq_none (by simpa using hw)]
          rw [wipe_length] at hw
          simp [hw]
      · rw [List.getElem?_set_ne hj, ih]
        have : (j ∈ w :: ws) ↔ j ∈ ws := by simp [Ne.symm hj]
        simp [this]
  apply List.ext_getElem?
  intro j
  rw [ex, ex, hl]
  by_cases hj : j ∈ vs
  · simp [hj]
  · simp [hj, h j hj]
theorem wipe_twice (σ : L2.St) (vs : List Nat) : wipe (wipe σ vs) vs = wipe σ vs := by
  apply wipe_same
  · intro j hj
    have ex : ∀ (ws : List Nat) (t : L2.St) (j : Nat), j ∉ ws → (wipe t ws)[j]? = t[j]? := by
      intro ws
      induction ws with
      | nil => intro t j _; rfl
      | cons w ws ih =>
        intro t j hj
        unfold wipe
        rw [List.getElem?_set_ne (fun z => hj (by rw [z]; exact List.mem_cons_self)), ih t j fun z => hj (List.mem_cons_of_mem _ z)]
    exact ex vs σ j hj
  · exact wipe_length σ vs

def tEvTs (K : KW) (f : Env → Store → R (D × Store)) : TT := tEvT K f
section
variable {X : Cx}
theorem sts_nil : PTs X [] (tEvT X.kw fun _ S => .ok (.bl true, S)) := ⟨fun pins s σ H Q I ⟨al, U, S, rho, b, S', sr, er, e, q⟩ => by
  cases e
  exact pts_nil.run pins s σ H Q I (q H al .refl sr)⟩
theorem sts_one {c : Expr} {fc : Env → Store → R (D × Store)} (h : PT X c (tEvT X.kw fc)) : PTs X [c] (tEvT X.kw fc) := pts_one h
/-- one turn's work -/
def turnC (own g : List Nat) (one : Bool) (fc fe : Env → Store → R (D × Store)) (rho : Env) : D → Store → R (List D × Store) := fun d S =>
  (bindG g one d (wipeE rho own)).bind fun rho' => (fc rho' S).bind fun q => match q.1 with
    | .bl true => (fe rho' q.2).bind fun r => .ok ([r.1], r.2)
    | .bl false => .ok ([], q.2)
    | _ => .bad
theorem comp_read {own g : List Nat} {one : Bool} (hgo : ∀ i ∈ g, i ∈ own) {m : Bool} {fi : Env → Store → R (Itr × Store)} {fc fe : Env → Store → R (D × Store)} {σ : L2.St} {H : Hp} {Q : VK}
    (h : tEv X.kw (fun rho S => (fi rho S).bind fun p => (compI (turnC own g one fc fe rho) p.1 p.2).bind fun q => litD m q.1 q.2) σ H Q) :
    tLc (tEvI X.kw fi) (gB X.kw g one) (tEvT X.kw fc) (tEv X.kw fe) own σ H Q := by
  obtain ⟨al, U, S, rho, d, S', sr, er, e, q⟩ := h
  obtain ⟨⟨it, S1⟩, e1, e⟩ := R.bind_ok e
  obtain ⟨⟨res, S2⟩, e2, e⟩ := R.bind_ok e
  obtain ⟨k0, run⟩ := runI e2
  refine ⟨al, U, S, rho, it, S1, sr, er, e1, fun J H1 al1 n1 sr1 ok Dn hD => ?_⟩
  have hDU : Dn ∉ U := fun z => sr1.liv Dn z hD
  refine ⟨fun i k Hc => ∃ alc Sc acc accD rest, SR X.kw alc (Dn :: U) Sc Hc ∧ Nxt al1 S1.length H1 alc Sc.length Hc ∧ Hc Dn = some (.lst acc) ∧ Reps X.kw alc Sc.length (Dn :: U) Hc accD acc ∧ accD.length ≤ i ∧
      RunC (turnC own g one fc fe rho) it k i Sc rest S2 ∧ res = accD ++ rest ∧ i ≤ sizeLine, ⟨k0, al1, S1, [], [], res, sr1.fresh1 hD _, (sr1.lay hD _).1, upd_same, by simp only [Reps], Nat.zero_le _, run, rfl, Nat.zero_le _⟩, ?_⟩
  rintro i k Hc ⟨alc, Sc, acc, accD, rest, src, nc, hc, rc, hl, runc, er2, hiz⟩
  have hu : ∀ u ∈ Dn :: U, u ∈ U ∨ H1 u = none := fun u hm => (List.mem_cons.mp hm).elim (fun z => .inr (by rw [z]; exact hD)) .inl
  obtain ⟨ok1, ok2⟩ := ok i alc (Dn :: U) Sc Hc hu src nc
  cases runc with
  | stop hst =>
    refine .inl ⟨ok2 hst, ?_⟩
    rw [List.append_nil] at er2
    subst er2
    have nall : Nxt al S.length H alc S2.length Hc := sr1.trans n1 nc
    unfold litD at e
    cases m with
    | false =>
      simp at e
      obtain ⟨rfl, rfl⟩ := e
      refine q _ _ alc nall (src.less fun u hm => List.mem_cons_of_mem _ hm) ?_
      simp only [Rep]
      refine ⟨Dn, acc, rfl, .inl ⟨.inl hc, fun i hi z => src.off i hi (by rw [← z]; exact List.mem_cons_self), hDU⟩, Nat.le_trans hl hiz, Reps.widen (fun u hm => .inl (List.mem_cons_of_mem _ hm)) _ _ rc⟩
    | true =>
      simp at e
      obtain ⟨rfl, rfl⟩ := e
      obtain ⟨sa, ea⟩ := src.adopt hDU (o := .lst res) fun gr => ⟨acc, hc, Nat.le_trans hl hiz, gr _ _ rc⟩
      have e2' : ∀ i, i < S2.length → ext1 alc S2.length Dn i = alc i := fun i hi => if_neg (by omega)
      have nad : Nxt al1 S1.length H1 (ext1 alc S2.length Dn) (S2 ++ [O.lst res]).length Hc := by
        refine ⟨nc.ext, by simp only [List.length_append, List.length_singleton]; have := nc.le; omega, fun i hi => ?_, fun i h1 h2 => ?_⟩
        · rw [e2' i (Nat.lt_of_lt_of_le hi nc.le)]; exact nc.agr i hi
        · simp only [List.length_append, List.length_singleton] at h2
          by_cases hi : i < S2.length
          · rw [e2' i hi]; exact nc.new i h1 hi
          · have : i = S2.length := by omega
            subst this
            rw [ea]
            exact hD
      refine q _ _ _ (sr1.trans n1 nad) sa ?_
      simp only [Rep]
      exact ⟨by simp, by rw [ea]⟩
  | step hit ef runn =>
    rename_i k' Sd d' p r'
    obtain ⟨hi, go, yl⟩ := ok1 d' hit
    refine .inr ⟨go, fun Hn => ∃ alc Sc acc accD, SR X.kw alc (Dn :: U) Sc Hn ∧ Nxt al1 S1.length H1 alc Sc.length Hn ∧ Hn Dn = some (.lst acc) ∧ Reps X.kw alc Sc.length (Dn :: U) Hn accD acc ∧ accD.length ≤ i + 1 ∧
      RunC (turnC own g one fc fe rho) it k' (i + 1) Sc r' S2 ∧ res = accD ++ r', fun H' ⟨alx, Sx, ax, axD, h1, h2, h3, h4, h5, h6, h7⟩ => ⟨k', Nat.lt_succ_self _, alx, Sx, ax, axD, r', h1, h2, h3, h4, h5, h6, h7, hi⟩, fun x H' hy => ?_⟩
    obtain ⟨ny, sry, rx⟩ := yl x H' hy
    have hDa : ∀ (alz : Nat → Addr) (Sz : Store) (Hz : Hp), SR X.kw alz (Dn :: U) Sz Hz → ∀ j, j < Sz.length → Dn ≠ alz j := fun alz Sz Hz sz j hj z => sz.off j hj (by rw [← z]; exact List.mem_cons_self)
    have hDy : H' Dn = some (.lst acc) := ny.ext _ _ hc (hDa _ _ _ src)
    have ncy : Nxt al1 S1.length H1 alc Sc.length H' := src.trans nc ny
    -- the names
    unfold turnC at ef
    obtain ⟨rho', eb, ef⟩ := R.bind_ok ef
    have ery : ER X.kw alc Sc.length (Dn :: U) H' rho σ := by
      have e0 : ER X.kw al1 S1.length U H1 rho σ := er.nxt n1
      have e1 : ER X.kw al1 S1.length (Dn :: U) H1 rho σ := ⟨e0.1, fun i d e => let ⟨v, e1, r⟩ := e0.2 i d e; ⟨v, e1, Rep.widen hu _ _ r⟩⟩
      exact e1.nxt ncy
    refine gB_rep rx (ery.wipe own) eb fun σ2 er3 h1 h2 => ⟨?_, ?_⟩
    · have : wipe σ2 own = wipe (wipe σ own) own := wipe_same (fun j hj => h1 j fun z => hj (hgo j z)) h2
      rw [this, wipe_twice]
    obtain ⟨⟨b, S3⟩, ec, ef⟩ := R.bind_ok ef
    simp only at ef
    split at ef
    · rename_i eb2
      refine ⟨alc, Dn :: U, Sc, rho', true, S3, sry, er3, ec, fun H3 al3 n3 sr3 => ?_⟩
      show if true = true then _ else _
      rw [if_pos rfl]
      obtain ⟨⟨y, S4⟩, ee, ef⟩ := R.bind_ok ef
      cases ef
      refine ⟨al3, Dn :: U, S3, rho', y, _, sr3, er3.nxt n3, ee, fun v H4 al4 n4 sr4 r4 => ?_⟩
      have hD4 : H4 Dn = some (.lst acc) := n4.ext _ _ (n3.ext _ _ hDy (hDa _ _ _ sry)) (hDa _ _ _ sr3)
      have n14 : Nxt al1 S1.length H1 al4 S4.length H4 := sr3.trans (sry.trans ncy n3) n4
      refine ⟨acc, hD4, ?_, al4, S4, acc ++ [v], accD ++ [y], sr4.touch List.mem_cons_self, ?_, upd_same, ?_, ?_, runn, ?_⟩
      · rw [← rc.length]; exact Nat.lt_of_le_of_lt hl hi
      · refine ⟨fun a o ea z => ?_, n14.le, n14.agr, n14.new⟩
        rw [upd_ne (fun zz => by rw [zz, hD] at ea; cases ea)]
        exact n14.ext a o ea z
      · have hx : ∀ a o, H4 a = some o → a ∉ Dn :: U → upd H4 Dn (.lst (acc ++ [v])) a = some o := fun a o ea hn => by
          rw [upd_ne (fun z => hn (by rw [z]; exact List.mem_cons_self))]
          exact ea
        refine Reps.append (Reps.touch hx _ _ (Reps.nxt n4 _ _ (Reps.nxt n3 _ _ (Reps.nxt ny _ _ rc)))) ?_
        simp only [Reps]
        exact ⟨v, [], rfl, Rep.touch hx _ _ r4, rfl⟩
      · simp only [List.length_append, List.length_singleton]; omega
      · rw [er2, List.append_assoc]
    · rename_i eb2
      cases ef
      refine ⟨alc, Dn :: U, Sc, rho', false, _, sry, er3, ec, fun H3 al3 n3 sr3 => ?_⟩
      show if false = true then _ else _
      rw [if_neg Bool.false_ne_true]
      have hD3 : H3 Dn = some (.lst acc) := n3.ext _ _ hDy (hDa _ _ _ sry)
      exact ⟨al3, Sd, acc, accD, sr3, sry.trans ncy n3, hD3, Reps.nxt n3 _ _ (Reps.nxt ny _ _ rc), by omega, runn, by rw [er2]; rfl⟩
    · cases ef
end
end Z

set_option Elab.async false
set_option linter.all false
set_option maxRecDepth 100000
set_option maxHeartbeats 4000000
/-! Ev7: statements, calls of defs. -/
namespace Z
open PySem L2 PySem.Spec PyProof.Rows

def tEvG (K : KW) (f : D → Env → Store → R (Env × Store)) : TG := fun v σ H Q => ∃ al U S rho d rho' S',
  SR K al U S H ∧ ER K al S.length U H rho σ ∧ Rep K al S.length U H d v ∧ f d rho S = .ok (rho', S') ∧
  ∀ σ' H' al', Nxt al S.length H al' S'.length H' → SR K al' U S' H' → ER K al' S'.length U H' rho' σ' → Q σ' H'
def tEvGs (K : KW) (f : List D → Env → Store → R (Env × Store)) : TGs := fun vs σ H Q => ∃ al U S rho ds rho' S',
  SR K al U S H ∧ ER K al S.length U H rho σ ∧ Reps K al S.length U H ds vs ∧ f ds rho S = .ok (rho', S') ∧
  ∀ σ' H' al', Nxt al S.length H al' S'.length H' → SR K al' U S' H' → ER K al' S'.length U H' rho' σ' → Q σ' H'
/-- how a statement's end is met -/
def EndOk (K : KW) (W : WX) (U : List Addr) (al : Nat → Addr) (n : Nat) (H : Hp) (D : Ends) (fl : Fl) (rho' : Env) (S' : Store) : Prop :=
  match fl with
  | .ex c => ∀ σ' H' al' C, Nxt al n H al' S'.length H' → SR K al' U S' H' → ER K al' S'.length U H' rho' σ' → PySem.W.nsIn K.K mainGlobals c = some (some (.ref C)) → W (.ref C) none σ' H'
  | .nx => ∀ σ' H' al', Nxt al n H al' S'.length H' → SR K al' U S' H' → ER K al' S'.length U H' rho' σ' → D.nx σ' H'
  | .ct => ∀ σ' H' al', Nxt al n H al' S'.length H' → SR K al' U S' H' → ER K al' S'.length U H' rho' σ' → D.ct σ' H'
  | .bk => ∀ σ' H' al', Nxt al n H al' S'.length H' → SR K al' U S' H' → ER K al' S'.length U H' rho' σ' → D.bk σ' H'
  | .rt d => ∀ v H' al', Nxt al n H al' S'.length H' → SR K al' U S' H' → Rep K al' S'.length U H' d v → D.rt v H'
def tEvS (K : KW) (W : WX) (f : Env → Store → R (Fl × Env × Store)) : TS := fun D σ H => ∃ al U S rho fl rho' S',
  SR K al U S H ∧ ER K al S.length U H rho σ ∧ f rho S = .ok (fl, rho', S') ∧ EndOk K W U al S.length H D fl rho' S'
/-- from an earlier state on -/
theorem EndOk.back {K : KW} {W : WX} {U : List Addr} {al al1 : Nat → Addr} {n : Nat} {S1 : Store} {H H1 : Hp} {D : Ends} {fl : Fl} {rho' : Env} {S' : Store} (sr1 : SR K al1 U S1 H1) (g : Nxt al n H al1 S1.length H1) (h : EndOk K W U al n H D fl rho' S') : EndOk K W U al1 S1.length H1 D fl rho' S' := by
  cases fl with
  | nx => exact fun σ' H' al' n' => h σ' H' al' (sr1.trans g n')
  | ct => exact fun σ' H' al' n' => h σ' H' al' (sr1.trans g n')
  | bk => exact fun σ' H' al' n' => h σ' H' al' (sr1.trans g n')
  | rt d => exact fun σ' H' al' n' => h σ' H' al' (sr1.trans g n')
  | ex c => exact fun σ' H' al' C n' => h σ' H' al' C (sr1.trans g n')

section
variable {X : Cx} {a b c o e : Expr} {es : List Expr} {st : Stmt} {sts sts2 : List Stmt} {pos p p2 : Pos} {fa fb fc : Env → Store → R (D × Store)} {fs : Env → Store → R (List D × Store)} {fg : D → Env → Store → R (Env × Store)} {fgs : List D → Env → Store → R (Env × Store)}
  {f1 f2 : Env → Store → R (Fl × Env × Store)} {W : WX}

/-! ### targets -/
theorem sg_nm {i : Nat} {x : Str} (hN : X.N.Nodup) (hi : X.N[i]? = some x) (hx : Loc X.env.scope x) (hf : X.fn x = true ∨ X.env.scope.names.lookup x = some .local) : PG X (.Name x pos) (tEvG X.kw fun d rho S => .ok (rho.set i (some d), S)) := by
  refine pg_weak (pg_name hN hi hx hf) fun v σ H Q ⟨al, U, S, rho, d, rho', S', sr, er, rd, e, q⟩ => ?_
  cases e
  exact q _ H al .refl sr (er.set rd i)
theorem sg_sub (hu : X.A.units + 64 < cLine) (ho : PE X a (tEv X.kw fa)) (hi : PE X b (tEv X.kw fb))
    (ha : ∀ v, assign (.Subscript a b pos) X.env v = (do
      let ov ← holding [v] (eval a X.env)
      let iv ← holding [v, ov] (eval b X.env)
      standAt pos
      holding [v, ov, iv] (setItem ov iv v)
      release [v, ov, iv] [])) : PG X (.Subscript a b pos) (tEvG X.kw fun d rho S => (fa rho S).bind fun p => (fb rho p.2).bind fun q => (subD p.1 q.1 d q.2).bind fun S' => .ok (rho, S')) := by
  refine pg_weak (pg_sub ho hi (set_D hu) ha) fun v σ H Q ⟨al, U, S, rho, d, rho', S', sr, er, rd, e, q⟩ => ?_
  obtain ⟨⟨d1, S1⟩, e1, e⟩ := R.bind_ok e
  obtain ⟨⟨d2, S2⟩, e2, e⟩ := R.bind_ok e
  obtain ⟨S3, e3, e⟩ := R.bind_ok e
  cases e
  exact ⟨al, U, S, rho, d1, S1, sr, er, e1, fun v1 H1 al1 n1 sr1 r1 => ⟨al1, U, S1, rho, d2, S2, sr1, er.nxt n1, e2, fun v2 H2 al2 n2 sr2 r2 =>
    have n12 := sr1.trans n1 n2
    ⟨al2, U, S2, d1, d2, d, S', sr2, Rep.nxt n2 _ _ r1, r2, Rep.nxt n12 _ _ rd, e3, fun H3 al3 n3 sr3 => q σ H3 al3 (sr2.trans n12 n3) sr3 ((er.nxt n12).nxt n3)⟩⟩⟩
theorem sgs_nil : PGs X [] (tEvGs X.kw fun ds rho S => match ds with
    | [] => .ok (rho, S)
    | _ => .bad) := ⟨fun pins s σ H vs us Q I r h => by
  obtain ⟨al, U, S, rho, ds, rho', S', sr, er, rd, e, q⟩ := h
  simp only at e
  split at e
  · cases e
    simp only [Reps] at rd
    exact pgs_nil.run pins s σ H vs us Q I r ⟨rd, q σ H al .refl sr er⟩
  · cases e⟩
theorem sgs_cons (hg : PG X a (tEvG X.kw fg)) (hgs : PGs X es (tEvGs X.kw fgs)) (hs : (assignEach (a :: es) X.env).map (·.2) = assign a X.env :: (assignEach es X.env).map (·.2)) :
    PGs X (a :: es) (tEvGs X.kw fun ds rho S => match ds with
      | d :: ds => (fg d rho S).bind fun p => fgs ds p.1 p.2
      | _ => .bad) := ⟨fun pins s σ H vs us Q I r h => by
  obtain ⟨al, U, S, rho, ds, rho', S', sr, er, rd, e, q⟩ := h
  simp only at e
  split at e
  · rename_i d ds'
    obtain ⟨⟨rho1, S1⟩, e1, e⟩ := R.bind_ok e
    simp only [Reps] at rd
    obtain ⟨v, r', rfl, r1, r2⟩ := rd
    exact (pgs_cons hg hgs hs).run pins s σ H _ us Q I r ⟨v, r', rfl, al, U, S, rho, d, rho1, S1, sr, er, r1, e1, fun σ1 H1 al1 n1 sr1 er1 =>
      ⟨al1, U, S1, rho1, ds', rho', S', sr1, er1, Reps.nxt n1 _ _ r2, e, fun σ2 H2 al2 n2 sr2 er2 => q σ2 H2 al2 (sr1.trans n1 n2) sr2 er2⟩⟩
  · cases e⟩
theorem sg_tp {k n : Nat} (hc : X.calm = true) (hgs : PGs X es (tEvGs X.kw fgs)) (hn : (assignEach es X.env).length = n) (hst : (assignEach es X.env).findIdx? (·.1) = none) : PG X (.Tuple es k pos) (tEvG X.kw fun d rho S => match d with
    | .tup ds => if ds.length = n then fgs ds rho S else .bad
    | _ => .bad) := by
  refine pg_weak (pg_tup hc hgs hn hst) fun v σ H Q ⟨al, U, S, rho, d, rho', S', sr, er, rd, e, q⟩ => ?_
  cases d with
  | tup ds =>
    simp only at e
    split at e
    · rename_i hl
      simp only [Rep] at rd
      obtain ⟨a, vs, rfl, t, l, rs⟩ := rd
      exact ⟨a, vs, rfl, t.sq, by rw [← rs.length]; exact hl, al, U, S, rho, ds, rho', S', sr, er, rs, e, q⟩
    · cases e
  | _ => cases e

/-! ### statements -/
theorem ss_asg (he : PE X e (tEv X.kw fa)) (hg : PG X a (tEvG X.kw fg)) (hs : swapsWithSole [a] e pos.line X.env = pure false) (hw : swappedStores [a] e X.env = pure none) (h1 : (assignEach [a] X.env).map (·.2) = [assign a X.env]) :
    PS X (.Assign [a] e pos) (tEvS X.kw W fun rho S => (fa rho S).bind fun p => (fg p.1 rho p.2).bind fun q => .ok (.nx, q)) := by
  refine ps_weak (ps_asg he hg hs hw h1) fun D σ H ⟨al, U, S, rho, fl, rho', S', sr, er, e, q⟩ => ?_
  obtain ⟨⟨d1, S1⟩, e1, e⟩ := R.bind_ok e
  obtain ⟨⟨d2, S2⟩, e2, e⟩ := R.bind_ok e
  cases e
  exact ⟨al, U, S, rho, d1, S1, sr, er, e1, fun v1 H1 al1 n1 sr1 r1 => ⟨al1, U, S1, rho, d1, _, _, sr1, er.nxt n1, r1, e2, fun σ2 H2 al2 n2 sr2 er2 => q σ2 H2 al2 (sr1.trans n1 n2) sr2 er2⟩⟩
theorem ss_set {i : Nat} {x : Str} {pos' : Pos} (hN : X.N.Nodup) (hi : X.N[i]? = some x) (hx : Loc X.env.scope x) (hf : X.fn x = true ∨ X.env.scope.names.lookup x = some .local) (he : PE X e (tEv X.kw fa)) (hs : swapsWith e (some (.Name x pos')) pos.line X.env = pure false) :
    PS X (.Assign [.Name x pos'] e pos) (tEvS X.kw W fun rho S => (fa rho S).bind fun p => .ok (.nx, rho.set i (some p.1), p.2)) := by
  refine ps_weak (ps_set hN hi hx he hs hf) fun D σ H ⟨al, U, S, rho, fl, rho', S', sr, er, e, q⟩ => ?_
  obtain ⟨⟨d1, S1⟩, e1, e⟩ := R.bind_ok e
  cases e
  exact ⟨al, U, S, rho, d1, _, sr, er, e1, fun v1 H1 al1 n1 sr1 r1 => q _ H1 al1 n1 sr1 ((er.nxt n1).set r1 i)⟩
theorem ss_setLc {i : Nat} {y : Str} {py : Pos} {elt tg iter : Expr} {ifs : List Expr} {scope : Scope} {own : List (Str × Nat)} {g : List Nat} {one m : Bool} {spos : Pos} {fi : Env → Store → R (Z.Itr × Store)} (hc : X.calm = true) (hN : X.N.Nodup) (hy : X.N[i]? = some y) (hyl : X.env.scope.names.lookup y = some .local)
    (hsw : swapsWith (.ListComp elt [⟨tg, iter, ifs, 0⟩] scope pos) (some (.Name y py)) spos.line X.env = pure true) (hi : PI X tg iter (tEvI X.kw fi)) (ok : BlkOk X.N X.env.scope scope own) (hgo : ∀ i ∈ g, i ∈ own.map (·.2))
    (hg : ∀ (s : Shared) (H : Hp) (C : Addr) (cl : List (Str × Addr)) (fp : List Addr), PG (X.blk s H scope (compEnvC scope cl C X.env) fp) tg (gB X.kw g one)) (ht : ∀ (s : Shared) (H : Hp) (C : Addr) (cl : List (Str × Addr)) (fp : List Addr), PTs (X.blk s H scope (compEnvC scope cl C X.env) fp) ifs (tEvT X.kw fc))
    (he : ∀ (s : Shared) (H : Hp) (C : Addr) (cl : List (Str × Addr)) (fp : List Addr), PE (X.blk s H scope (compEnvC scope cl C X.env) fp) elt (tEv X.kw fa)) (hs : ∀ x, foldedSetIterable iter X.env x = pure x) :
    PS X (.Assign [.Name y py] (.ListComp elt [⟨tg, iter, ifs, 0⟩] scope pos) spos) (tEvS X.kw W fun rho S => ((fi rho S).bind fun p => (compI (turnC (own.map (·.2)) g one fc fa rho) p.1 p.2).bind fun q => litD m q.1 q.2).bind fun p => .ok (.nx, rho.set i (some p.1), p.2)) := by
  refine ps_weak (ps_setLc hc hN hy hyl hsw hi ok hg ht he hs) fun D σ H ⟨al, U, S, rho, fl, rho', S', sr, er, e, q⟩ => ?_
  obtain ⟨⟨d1, S1⟩, e1, e⟩ := R.bind_ok e
  cases e
  exact comp_read hgo ⟨al, U, S, rho, d1, _, sr, er, e1, fun v1 H1 al1 n1 sr1 r1 => q _ H1 al1 n1 sr1 ((er.nxt n1).set r1 i)⟩
theorem se_comp {elt tg iter : Expr} {ifs : List Expr} {scope : Scope} {own : List (Str × Nat)} {g : List Nat} {one m : Bool} {fi : Env → Store → R (Z.Itr × Store)} (hc : X.calm = true) (hN : X.N.Nodup) (hi : PI X tg iter (tEvI X.kw fi)) (ok : BlkOk X.N X.env.scope scope own) (hgo : ∀ i ∈ g, i ∈ own.map (·.2))
    (hg : ∀ (s : Shared) (H : Hp) (C : Addr) (cl : List (Str × Addr)) (fp : List Addr), PG (X.blk s H scope (compEnvC scope cl C X.env) fp) tg (gB X.kw g one)) (ht : ∀ (s : Shared) (H : Hp) (C : Addr) (cl : List (Str × Addr)) (fp : List Addr), PTs (X.blk s H scope (compEnvC scope cl C X.env) fp) ifs (tEvT X.kw fc))
    (he : ∀ (s : Shared) (H : Hp) (C : Addr) (cl : List (Str × Addr)) (fp : List Addr), PE (X.blk s H scope (compEnvC scope cl C X.env) fp) elt (tEv X.kw fa)) (hs : ∀ x, foldedSetIterable iter X.env x = pure x) :
    PE X (.ListComp elt [⟨tg, iter, ifs, 0⟩] scope pos) (tEv X.kw fun rho S => (fi rho S).bind fun p => (compI (turnC (own.map (·.2)) g one fc fa rho) p.1 p.2).bind fun q => litD m q.1 q.2) :=
  pe_weak (pe_lc hc hN hi ok hg ht he hs) fun σ H Q h => comp_read hgo h
theorem ss_exp (he : PE X e (tEv X.kw fa)) (hs : swapsWith e none pos.line X.env = pure false) : PS X (.Expr e pos) (tEvS X.kw W fun rho S => (fa rho S).bind fun p => .ok (.nx, rho, p.2)) := by
  refine ps_weak (ps_expr he hs) fun D σ H ⟨al, U, S, rho, fl, rho', S', sr, er, e, q⟩ => ?_
  obtain ⟨⟨d1, S1⟩, e1, e⟩ := R.bind_ok e
  cases e
  exact ⟨al, U, S, _, d1, _, sr, er, e1, fun v1 H1 al1 n1 sr1 r1 => q σ H1 al1 n1 sr1 (er.nxt n1)⟩
theorem ss_ite (hc : PT X c (tEvT X.kw fc)) (h1 : PSs X sts (tEvS X.kw W f1)) (h2 : PSs X sts2 (tEvS X.kw W f2)) : PS X (.If c sts sts2 pos) (tEvS X.kw W fun rho S => (fc rho S).bind fun p => match p.1 with
    | .bl true => f1 rho p.2
    | .bl false => f2 rho p.2
    | _ => .bad) := by
  refine ps_weak (ps_if hc h1 h2) fun D σ H ⟨al, U, S, rho, fl, rho', S', sr, er, e, q⟩ => ?_
  obtain ⟨⟨d1, S1⟩, e1, e⟩ := R.bind_ok e
  simp only at e
  split at e
  · refine ⟨al, U, S, rho, true, S1, sr, er, e1, fun H1 al1 n1 sr1 => ?_⟩
    show if true = true then _ else _
    rw [if_pos rfl]
    exact ⟨al1, U, S1, rho, fl, rho', S', sr1, er.nxt n1, e, q.back sr1 n1⟩
  · refine ⟨al, U, S, rho, false, S1, sr, er, e1, fun H1 al1 n1 sr1 => ?_⟩
    show if false = true then _ else _
    rw [if_neg Bool.false_ne_true]
    exact ⟨al1, U, S1, rho, fl, rho', S', sr1, er.nxt n1, e, q.back sr1 n1⟩
  · cases e
theorem ss_ret (he : PE X e (tEv X.kw fa)) : PS X (.Return (some e) pos) (tEvS X.kw W fun rho S => (fa rho S).bind fun p => .ok (.rt p.1, rho, p.2)) := by
  refine ps_weak (ps_ret he) fun D σ H ⟨al, U, S, rho, fl, rho', S', sr, er, e, q⟩ => ?_
  obtain ⟨⟨d1, S1⟩, e1, e⟩ := R.bind_ok e
  cases e
  exact ⟨al, U, S, _, d1, _, sr, er, e1, fun v1 H1 al1 n1 sr1 r1 => q v1 H1 al1 n1 sr1 r1⟩
theorem ss_pas : PS X (.Pass pos) (tEvS X.kw W fun rho S => .ok (.nx, rho, S)) := by
  refine ps_weak ps_pass fun D σ H ⟨al, U, S, rho, fl, rho', S', sr, er, e, q⟩ => ?_
  cases e
  exact q σ H al .refl sr er
theorem ss_brk : PS X (.Break pos) (tEvS X.kw W fun rho S => .ok (.bk, rho, S)) := by
  refine ps_weak ps_break fun D σ H ⟨al, U, S, rho, fl, rho', S', sr, er, e, q⟩ => ?_
  cases e
  exact q σ H al .refl sr er
theorem ss_cnt : PS X (.Continue pos) (tEvS X.kw W fun rho S => .ok (.ct, rho, S)) := by
  refine ps_weak ps_continue fun D σ H ⟨al, U, S, rho, fl, rho', S', sr, er, e, q⟩ => ?_
  cases e
  exact q σ H al .refl sr er
theorem ss_bad : PS X st (tEvS X.kw W fun _ _ => .bad) := by
  refine ps_weak ps_never fun D σ H ⟨al, U, S, rho, fl, rho', S', sr, er, e, q⟩ => ?_
  cases e
theorem sss_nil : PSs X [] (tEvS X.kw W fun rho S => .ok (.nx, rho, S)) := by
  refine pss_weak pss_nil fun D σ H ⟨al, U, S, rho, fl, rho', S', sr, er, e, q⟩ => ?_
  cases e
  exact q σ H al .refl sr er
theorem sss_cons (h1 : PS X st (tEvS X.kw W f1)) (h2 : PSs X sts (tEvS X.kw W f2)) : PSs X (st :: sts) (tEvS X.kw W fun rho S => (f1 rho S).bind fun p => match p.1 with
    | .nx => f2 p.2.1 p.2.2
    | _ => .ok p) := by
  refine pss_weak (pss_cons h1 h2) fun D σ H ⟨al, U, S, rho, fl, rho', S', sr, er, e, q⟩ => ?_
  obtain ⟨⟨fl1, rho1, S1⟩, e1, e⟩ := R.bind_ok e
  refine ⟨al, U, S, rho, fl1, rho1, S1, sr, er, e1, ?_⟩
  cases fl1 with
  | nx => exact fun σ1 H1 al1 n1 sr1 er1 => ⟨al1, U, S1, rho1, fl, rho', S', sr1, er1, e, q.back sr1 n1⟩
  | ct => cases e; exact q
  | bk => cases e; exact q
  | rt d => cases e; exact q
  | ex c => cases e; exact q

/-! ### loops -/
inductive RunF (f : D → Env → Store → R (Fl × Env × Store)) (it : Z.Itr) : Nat → Nat → Env → Store → Fl → Env → Store → Prop
  | stop {i : Nat} {rho : Env} {S : Store} (h : stI it i S) : RunF f it 0 i rho S .nx rho S
  | nx {k i : Nat} {rho rho1 rho2 : Env} {S S1 S2 : Store} {d : D} {fl : Fl} (h : itemI it i S = some d) (e : f d rho S = .ok (.nx, rho1, S1)) (n : RunF f it k (i + 1) rho1 S1 fl rho2 S2) : RunF f it (k + 1) i rho S fl rho2 S2
  | ct {k i : Nat} {rho rho1 rho2 : Env} {S S1 S2 : Store} {d : D} {fl : Fl} (h : itemI it i S = some d) (e : f d rho S = .ok (.ct, rho1, S1)) (n : RunF f it k (i + 1) rho1 S1 fl rho2 S2) : RunF f it (k + 1) i rho S fl rho2 S2
  | bk {k i : Nat} {rho rho1 : Env} {S S1 : Store} {d : D} (h : itemI it i S = some d) (e : f d rho S = .ok (.bk, rho1, S1)) : RunF f it (k + 1) i rho S .nx rho1 S1
  | rt {k i : Nat} {rho rho1 : Env} {S S1 : Store} {d v : D} (h : itemI it i S = some d) (e : f d rho S = .ok (.rt v, rho1, S1)) : RunF f it (k + 1) i rho S (.rt v) rho1 S1
  | ex {k i : Nat} {rho rho1 : Env} {S S1 : Store} {d : D} {c : Str} (h : itemI it i S = some d) (e : f d rho S = .ok (.ex c, rho1, S1)) : RunF f it (k + 1) i rho S (.ex c) rho1 S1
theorem runFL {f : D → Env → Store → R (Fl × Env × Store)} : ∀ {ds es : List D} {i : Nat} {rho rho2 : Env} {S S2 : Store} {fl : Fl}, es = ds.drop i → i ≤ ds.length → forL f es rho S = .ok (fl, rho2, S2) → RunF f (.sq ds) es.length i rho S fl rho2 S2
  | ds, [], i, rho, rho2, S, S2, fl, e, hi, h => by
    cases h
    refine .stop ?_
    show ds.length ≤ i
    have := congrArg List.length e
    simp at this
    omega
  | ds, d :: es, i, rho, rho2, S, S2, fl, e, hi, h => by
    unfold forL at h
    obtain ⟨⟨f1, rho1, S1⟩, e1, h⟩ := R.bind_ok h
    have h0 : ds[i]? = some d := by
      have : (ds.drop i)[0]? = some d := by rw [← e]; rfl
      simpa using this
    obtain ⟨hi', _⟩ := List.getElem?_eq_some_iff.mp h0
    have h1 : es = ds.drop (i + 1) := by
      have : (ds.drop i).tail = ds.drop (i + 1) := by simp
      rw [← this, ← e]
      rfl
    cases f1 with
    | nx => exact .nx (it := .sq ds) h0 e1 (runFL h1 (by omega) h)
    | ct => exact .ct (it := .sq ds) h0 e1 (runFL h1 (by omega) h)
    | bk => cases h; exact .bk (it := .sq ds) h0 e1
    | rt v => cases h; exact .rt (it := .sq ds) h0 e1
    | ex c => cases h; exact .ex (it := .sq ds) h0 e1
theorem runFR {f : D → Env → Store → R (Fl × Env × Store)} {n len : Nat} : ∀ {m i : Nat} {rho rho2 : Env} {S S2 : Store} {fl : Fl}, i + m = len → forR f n len m i rho S = .ok (fl, rho2, S2) → RunF f (.rf n) m i rho S fl rho2 S2
  | 0, i, rho, rho2, S, S2, fl, e, h => by
    unfold forR at h
    split at h
    · rename_i ds eo
      split at h
      · rename_i hl
        cases h
        exact .stop ⟨ds, eo, by omega⟩
      · cases h
    · cases h
  | m + 1, i, rho, rho2, S, S2, fl, e, h => by
    unfold forR at h
    split at h
    · rename_i ds eo
      split at h
      · rename_i hl
        split at h
        · rename_i d hd
          obtain ⟨⟨f1, rho1, S1⟩, e1, h⟩ := R.bind_ok h
          have h0 : itemI (.rf n) i S = some d := by simp only [itemI, eo]; exact hd
          cases f1 with
          | nx => exact .nx h0 e1 (runFR (by omega) h)
          | ct => exact .ct h0 e1 (runFR (by omega) h)
          | bk => cases h; exact .bk h0 e1
          | rt v => cases h; exact .rt h0 e1
          | ex c => cases h; exact .ex h0 e1
        · cases h
      · cases h
    · cases h
theorem runFZ {f : D → Env → Store → R (Fl × Env × Store)} {n len : Nat} {bs : List D} : ∀ {m i : Nat} {rho rho2 : Env} {S S2 : Store} {fl : Fl}, i + m = min len bs.length → forZ f n bs len m i rho S = .ok (fl, rho2, S2) → RunF f (.zl n bs) m i rho S fl rho2 S2
  | 0, i, rho, rho2, S, S2, fl, e, h => by
    unfold forZ at h
    split at h
    · rename_i ds eo
      split at h
      · rename_i hl
        cases h
        exact .stop ⟨ds, eo, by omega⟩
      · cases h
    · cases h
  | m + 1, i, rho, rho2, S, S2, fl, e, h => by
    unfold forZ at h
    split at h
    · rename_i ds eo
      split at h
      · rename_i hl
        split at h
        · rename_i d b hd hb
          obtain ⟨⟨f1, rho1, S1⟩, e1, h⟩ := R.bind_ok h
          have h0 : itemI (.zl n bs) i S = some (.tup [d, b]) := by simp only [itemI, eo, hd, hb]
          cases f1 with
          | nx => exact .nx h0 e1 (runFZ (by omega) h)
          | ct => exact .ct h0 e1 (runFZ (by omega) h)
          | bk => cases h; exact .bk h0 e1
          | rt v => cases h; exact .rt h0 e1
          | ex c => cases h; exact .ex h0 e1
        · cases h
      · cases h
    · cases h
theorem runFI {f : D → Env → Store → R (Fl × Env × Store)} {it : Z.Itr} {rho rho2 : Env} {S S2 : Store} {fl : Fl} (h : forI f it rho S = .ok (fl, rho2, S2)) : ∃ k, RunF f it k 0 rho S fl rho2 S2 := by
  cases it with
  | sq ds => exact ⟨_, runFL (i := 0) (by simp) (Nat.zero_le _) h⟩
  | rf n =>
    unfold forI at h
    simp only at h
    split at h
    · exact ⟨_, runFR (by omega) h⟩
    · cases h
  | zl n bs =>
    unfold forI at h
    simp only at h
    split at h
    · exact ⟨_, runFZ (by omega) h⟩
    · cases h
theorem ss_for {iter : Expr} {fi : Env → Store → R (Z.Itr × Store)} {g : List Nat} {one : Bool} (hp : PassesOwn (model X.prog X.w) X.A X.env X.xe) (hc : X.calm = true) (hi : PI X a iter (tEvI X.kw fi)) (hg : PG X a (gB X.kw g one)) (hb : PSs X sts (tEvS X.kw W f1)) (hs : ∀ x, foldedSetIterable iter X.env x = pure x) :
    PS X (.For a iter sts [] pos) (tEvS X.kw W fun rho S => (fi rho S).bind fun p => forI (fun d rho S => (bindG g one d rho).bind fun rho' => f1 rho' S) p.1 rho p.2) := by
  refine ps_weak (ps_for hp hc hi hg hb hs) fun D σ H ⟨al, U, S, rho, fl, rho', S', sr, er, e, q⟩ => ?_
  obtain ⟨⟨it, S1⟩, e1, e⟩ := R.bind_ok e
  obtain ⟨k0, run⟩ := runFI e
  refine ⟨al, U, S, rho, it, S1, sr, er, e1, fun J H1 al1 n1 sr1 ok => ?_⟩
  have q1 := q.back sr1 n1
  refine ⟨fun i k σc Hc => ∃ alc Sc rhoc, SR X.kw alc U Sc Hc ∧ Nxt al1 S1.length H1 alc Sc.length Hc ∧ ER X.kw alc Sc.length U Hc rhoc σc ∧
      RunF (fun d rho S => (bindG g one d rho).bind fun rho' => f1 rho' S) it k i rhoc Sc fl rho' S', ⟨k0, al1, S1, rho, sr1, .refl, er.nxt n1, run⟩, ?_⟩
  rintro i k σc Hc ⟨alc, Sc, rhoc, src, nc, erc, runc⟩
  obtain ⟨ok1, ok2⟩ := ok i alc U Sc Hc (fun u hm => .inl hm) src nc
  have q2 := q1.back src nc
  cases runc with
  | stop hst => exact .inl ⟨ok2 hst, q2 σc Hc alc .refl src erc⟩
  | nx hit ef runn =>
    rename_i k' rho1 Sd d
    obtain ⟨hiz, go, yl⟩ := ok1 d hit
    refine .inr ⟨go, fun σn Hn => ∃ alc Sc rhoc, SR X.kw alc U Sc Hn ∧ Nxt al1 S1.length H1 alc Sc.length Hn ∧ ER X.kw alc Sc.length U Hn rhoc σn ∧
      RunF (fun d rho S => (bindG g one d rho).bind fun rho' => f1 rho' S) it k' (i + 1) rhoc Sc fl rho' S', fun σ' H' h => ⟨k', Nat.lt_succ_self _, h⟩, fun x H' hy => ?_⟩
    obtain ⟨ny, sry, rx⟩ := yl x H' hy
    obtain ⟨rhob, eb, ef⟩ := R.bind_ok ef
    exact gB_rep rx (erc.nxt ny) eb fun σ2 er2 _ _ => ⟨alc, U, Sc, rhob, .nx, _, _, sry, er2, ef, fun σ3 H3 al3 n3 sr3 er3 => ⟨al3, _, _, sr3, sry.trans (src.trans nc ny) n3, er3, runn⟩⟩
  | ct hit ef runn =>
    rename_i k' rho1 Sd d
    obtain ⟨hiz, go, yl⟩ := ok1 d hit
    refine .inr ⟨go, fun σn Hn => ∃ alc Sc rhoc, SR X.kw alc U Sc Hn ∧ Nxt al1 S1.length H1 alc Sc.length Hn ∧ ER X.kw alc Sc.length U Hn rhoc σn ∧
      RunF (fun d rho S => (bindG g one d rho).bind fun rho' => f1 rho' S) it k' (i + 1) rhoc Sc fl rho' S', fun σ' H' h => ⟨k', Nat.lt_succ_self _, h⟩, fun x H' hy => ?_⟩
    obtain ⟨ny, sry, rx⟩ := yl x H' hy
    obtain ⟨rhob, eb, ef⟩ := R.bind_ok ef
    exact gB_rep rx (erc.nxt ny) eb fun σ2 er2 _ _ => ⟨alc, U, Sc, rhob, .ct, _, _, sry, er2, ef, fun σ3 H3 al3 n3 sr3 er3 => ⟨al3, _, _, sr3, sry.trans (src.trans nc ny) n3, er3, runn⟩⟩
  | bk hit ef =>
    rename_i k' d _
    obtain ⟨hiz, go, yl⟩ := ok1 d hit
    refine .inr ⟨go, fun _ _ => False, fun σ' H' h => h.elim, fun x H' hy => ?_⟩
    obtain ⟨ny, sry, rx⟩ := yl x H' hy
    obtain ⟨rhob, eb, ef⟩ := R.bind_ok ef
    exact gB_rep rx (erc.nxt ny) eb fun σ2 er2 _ _ => ⟨alc, U, Sc, rhob, .bk, _, _, sry, er2, ef, fun σ3 H3 al3 n3 sr3 er3 => q2 σ3 H3 al3 (sry.trans ny n3) sr3 er3⟩
  | rt hit ef =>
    rename_i k' d v _
    obtain ⟨hiz, go, yl⟩ := ok1 d hit
    refine .inr ⟨go, fun _ _ => False, fun σ' H' h => h.elim, fun x H' hy => ?_⟩
    obtain ⟨ny, sry, rx⟩ := yl x H' hy
    obtain ⟨rhob, eb, ef⟩ := R.bind_ok ef
    exact gB_rep rx (erc.nxt ny) eb fun σ2 er2 _ _ => ⟨alc, U, Sc, rhob, .rt v, _, _, sry, er2, ef, fun v3 H3 al3 n3 sr3 r3 => q2 v3 H3 al3 (sry.trans ny n3) sr3 r3⟩
  | ex hit ef =>
    rename_i k' d c _
    obtain ⟨hiz, go, yl⟩ := ok1 d hit
    refine .inr ⟨go, fun _ _ => False, fun σ' H' h => h.elim, fun x H' hy => ?_⟩
    obtain ⟨ny, sry, rx⟩ := yl x H' hy
    obtain ⟨rhob, eb, ef⟩ := R.bind_ok ef
    exact gB_rep rx (erc.nxt ny) eb fun σ2 er2 _ _ => ⟨alc, U, Sc, rhob, .ex c, _, _, sry, er2, ef, fun σ3 H3 al3 C n3 sr3 er3 => q2 σ3 H3 al3 C (sry.trans ny n3) sr3 er3⟩
theorem ss_whl {fuel : Nat} (hp : PassesOwn (model X.prog X.w) X.A X.env X.xe) (hc : PT X c (tEvT X.kw fc)) (hb : PSs X sts (tEvS X.kw W f1)) : PS X (.While c sts [] pos) (tEvS X.kw W fun rho S => whlN fc f1 fuel rho S) := by
  refine ps_weak (ps_while hp hc hb) fun D σ H ⟨al, U, S, rho, fl, rho', S', sr, er, e, q⟩ => ?_
  refine ⟨fun k σc Hc => ∃ alc Sc rhoc, SR X.kw alc U Sc Hc ∧ Nxt al S.length H alc Sc.length Hc ∧ ER X.kw alc Sc.length U Hc rhoc σc ∧ whlN fc f1 k rhoc Sc = .ok (fl, rho', S'), ⟨fuel, al, S, rho, sr, .refl, er, e⟩, ?_⟩
  rintro k σc Hc ⟨alc, Sc, rhoc, src, nc, erc, run⟩
  cases k with
  | zero => cases run
  | succ k =>
    have q2 := q.back src nc
    unfold whlN at run
    obtain ⟨⟨b, S1⟩, e1, run⟩ := R.bind_ok run
    simp only at run
    split at run
    · refine ⟨alc, U, Sc, rhoc, true, S1, src, erc, e1, fun H1 al1 n1 sr1 => ?_⟩
      show if true = true then _ else _
      rw [if_pos rfl]
      obtain ⟨⟨f2, rho2, S2⟩, e2, run⟩ := R.bind_ok run
      refine ⟨fun σn Hn => ∃ alc Sc rhoc, SR X.kw alc U Sc Hn ∧ Nxt al S.length H alc Sc.length Hn ∧ ER X.kw alc Sc.length U Hn rhoc σn ∧ whlN fc f1 k rhoc Sc = .ok (fl, rho', S'), fun σ' H' h => ⟨k, Nat.lt_succ_self _, h⟩, al1, U, S1, rhoc, f2, rho2, S2, sr1, erc.nxt n1, e2, ?_⟩
      cases f2 with
      | nx => exact fun σ3 H3 al3 n3 sr3 er3 => ⟨al3, S2, rho2, sr3, sr1.trans (src.trans nc n1) n3, er3, run⟩
      | ct => exact fun σ3 H3 al3 n3 sr3 er3 => ⟨al3, S2, rho2, sr3, sr1.trans (src.trans nc n1) n3, er3, run⟩
      | bk => cases run; exact fun σ3 H3 al3 n3 sr3 er3 => q2 σ3 H3 al3 (sr1.trans n1 n3) sr3 er3
      | rt v => cases run; exact fun v3 H3 al3 n3 sr3 r3 => q2 v3 H3 al3 (sr1.trans n1 n3) sr3 r3
      | ex c => cases run; exact fun σ3 H3 al3 C n3 sr3 er3 => q2 σ3 H3 al3 C (sr1.trans n1 n3) sr3 er3
    · cases run
      refine ⟨alc, U, Sc, _, false, _, src, erc, e1, fun H1 al1 n1 sr1 => ?_⟩
      show if false = true then _ else _
      rw [if_neg Bool.false_ne_true]
      exact q2 σc H1 al1 n1 sr1 (erc.nxt n1)
    · cases run

/-! ### calls -/
def spOf (K : KW) (P : Pg) (k : Nat) (f : Str) : Sp := fun vs H Q E => ∃ al U S ds, SR K al U S H ∧ Reps K al S.length U H ds vs ∧
  ((∃ d S', callF P k f ds S = .ok (d, S') ∧ ∀ v H' al', Nxt al S.length H al' S'.length H' → SR K al' U S' H' → Rep K al' S'.length U H' d v → Q v H') ∨
    (∃ c o S', callF P k f ds S = .exc c o S' ∧ ∀ H' al' C, Nxt al S.length H al' S'.length H' → SR K al' U S' H' → PySem.W.nsIn K.K mainGlobals c = some (some (.ref C)) → E (.ref C) none H'))
theorem passL {X : Cx} : Passes (L2.CX X.prog X.w) X E0 := fun _ _ _ _ _ _ _ h => by
  obtain ⟨_, _, _, _, _, _, _, _, _, _, _, _, z⟩ := h
  exact z.elim
/-- a def, its promise kept -/
structure FnAt (X : Cx) (k : Nat) (f : Addr) (sp : Sp) : Prop where
  ex : ∃ (fd : FuncData) (ps : List Str), FnOk X.prog X.w X.kw X.mg X.base (L2.CX X.prog X.w) k f fd ps sp ∧ PySem.W.keepIn X.kw (.ref f) = true ∧ Binds X.kw fd ps []
theorem se_call {P : Pg} {j k : Nat} {x : Str} {f : Addr} {fd : FuncData} {ps : List Str} (F : FnOk X.prog X.w X.kw X.mg X.base (L2.CX X.prog X.w) j f fd ps (spOf X.kw P k x)) (hr : Room j X.A) (hg : Gl X x) (hm : X.mg x = some (.ref f)) (hk : PySem.W.keepIn X.kw (.ref f) = true) (hb : Binds X.kw fd ps [])
    (ha : PA X (e :: es) (tEvs X.kw fs)) (hdb : (x == ("__debug__" : Str)) = false) (he : starEach (e :: es) X.env = (false, eval e X.env) :: starEach es X.env) (hpl : (backTo pos (starEach es X.env)).any (·.1) = false) :
    PE X (.Call (.Name x p) (e :: es) [] pos) (tEv X.kw fun rho S => (fs rho S).bind fun p => callF P k x p.1 p.2) := by
  refine pe_weak (pe_call F hr hg hm hk hb .nil passL ha hdb he hpl) fun σ H Q ⟨al, U, S, rho, d, S', sr, er, e, q⟩ => ?_
  obtain ⟨⟨d1, S1⟩, e1, e⟩ := R.bind_ok e
  refine ⟨al, U, S, rho, d1, S1, sr, er, e1, fun vs H1 al1 n1 sr1 r1 => ?_⟩
  show spOf X.kw P k x (vs ++ []) H1 Q E0
  rw [List.append_nil]
  exact ⟨al1, U, S1, d1, sr1, r1, .inl ⟨d, S', e, fun v2 H2 al2 n2 sr2 r2 => q v2 H2 al2 (sr1.trans n1 n2) sr2 r2⟩⟩
theorem se_call0 {P : Pg} {j k : Nat} {x : Str} {f : Addr} {fd : FuncData} {ps : List Str} (F : FnOk X.prog X.w X.kw X.mg X.base (L2.CX X.prog X.w) j f fd ps (spOf X.kw P k x)) (hr : Room j X.A) (hg : Gl X x) (hm : X.mg x = some (.ref f)) (hk : PySem.W.keepIn X.kw (.ref f) = true) (hb : Binds X.kw fd ps []) (hdb : (x == ("__debug__" : Str)) = false) :
    PE X (.Call (.Name x p) [] [] pos) (tEv X.kw fun rho S => callF P k x [] S) := by
  refine pe_weak (pe_call0 F hr hg hm hk hb .nil passL hdb) fun σ H Q ⟨al, U, S, rho, d, S', sr, er, e, q⟩ => ?_
  exact ⟨al, U, S, [], sr, by simp only [Reps]; rfl, .inl ⟨d, S', e, q⟩⟩
/-- a local name that holds a def, called -/
theorem se_callv {P : Pg} {j k i : Nat} {x : Str} (A : ∀ y f ds S r, PySem.W.nsIn X.kw.K mainGlobals y = some (some (.ref f)) → callF P k y ds S = .ok r → FnAt X j f (spOf X.kw P k y)) (hr : Room j X.A) (hN : X.N[i]? = some x) (hv : Vis X.env.scope x)
    (ha : PA X (e :: es) (tEvs X.kw fs)) (hdb : (x == ("__debug__" : Str)) = false) (hcd : (x == ("__classdict__" : Str)) = false) (he : starEach (e :: es) X.env = (false, eval e X.env) :: starEach es X.env) (hpl : (backTo pos (starEach es X.env)).any (·.1) = false) :
    PE X (.Call (.Name x p) (e :: es) [] pos) (tEv X.kw fun rho S => match rho[i]? with
      | some (some (.fn y)) => (fs rho S).bind fun p => callF P k y p.1 p.2
      | _ => .bad) := by
  refine ⟨fun pins s σ H Q I ⟨al, U, S, rho, d, S', sr, er, e0, q⟩ => ?_⟩
  simp only at e0
  split at e0
  · rename_i y hy
    obtain ⟨⟨d1, S1⟩, e1, e2⟩ := R.bind_ok e0
    obtain ⟨v, hs, rv⟩ := er.2 i _ hy
    simp only [Rep] at rv
    obtain ⟨f, rfl, hf⟩ := rv
    obtain ⟨fd, ps, F, hk, hb⟩ := (A y f d1 S1 _ hf e2).ex
    refine (L2.pe_callL (i := i) (f := f) (sp := spOf X.kw P k y) (dvs := []) (E := E0) F hr hN hv hk hb .nil passL ha hdb hcd he hpl).run pins s σ H Q I ⟨hs, ?_⟩
    refine ⟨al, U, S, rho, d1, S1, sr, er, e1, fun vs H1 al1 n1 sr1 r1 => ?_⟩
    show spOf X.kw P k y (vs ++ []) H1 Q E0
    rw [List.append_nil]
    exact ⟨al1, U, S1, d1, sr1, r1, .inl ⟨d, S', e2, fun v2 H2 al2 n2 sr2 r2 => q v2 H2 al2 (sr1.trans n1 n2) sr2 r2⟩⟩
  · cases e0
/-- a built-in function, type, by values -/
theorem tEv_call {g : List D → Store → R (D × Store)} {r : List V → Hp → VK → Prop} (hr : ∀ xs H Q, rC X.kw g xs H Q → r xs H Q) {σ : L2.St} {H : Hp} {Q : VK} (h : tEv X.kw (fun rho S => (fs rho S).bind fun p => g p.1 p.2) σ H Q) : tEvs X.kw fs σ H fun xs H1 => r xs H1 Q := by
  obtain ⟨al, U, S, rho, d, S', sr, er, e, q⟩ := h
  obtain ⟨⟨d1, S1⟩, e1, e⟩ := R.bind_ok e
  exact ⟨al, U, S, rho, d1, S1, sr, er, e1, fun vs H1 al1 n1 sr1 r1 => hr _ _ _ ⟨al1, U, S1, d1, d, S', sr1, r1, e, fun v2 H2 al2 n2 sr2 r2 => q v2 H2 al2 (sr1.trans n1 n2) sr2 r2⟩⟩
end
end Z

set_option Elab.async false
set_option linter.all false
set_option maxRecDepth 100000
set_option maxHeartbeats 4000000
/-! Exv: errors raised, let out, caught, held as values. -/
namespace Z
open PySem L2 PySem.Spec PyProof.Rows

section
variable {X : Cx} {pins : List (Addr × Obj)} {σ : L2.St} {H : Hp} {sI s s' : Shared} {B : Heap}
end
/-- what a clause wishes of an error of the body: the clause's class c, its name's slot i -/
def wV (K : PySem.W.Frag) (c : Value) (i : Nat) (ts : TS) (Wout : WX) (D : Ends) : WX := fun cls d σ H =>
  ∃ b, PySem.W.exmOne K cls c = some b ∧ (b = true → ∃ C, cls = .ref C ∧ d = none ∧ ∀ a, H a = none → ts { nx := fun σ' H' => D.nx (σ'.set i none) H', rt := D.rt, bk := fun σ' H' => D.bk (σ'.set i none) H', ct := fun σ' H' => D.ct (σ'.set i none) H' } (σ.set i (some (.ref a))) (upd H a (exV C a))) ∧
    (b = false → Wout cls d σ H)
section
variable {X : Cx} {x n : Str} {c : Value} {i : Nat} {body suite : List Stmt} {b₀ : Stmt} {np pos pos' : Pos} {tb : WX → TS} {ts : TS} {Wout : WX} {pins : List (Addr × Obj)}
end

/-! ### isinstance of a caught error -/
/-- isinstance(e, c), isinstance(e, (c1, ..)) -/
def rIsV (K : PySem.W.Frag) : List V → Hp → VK → Prop := fun xs H Q => ∃ (a D : Addr) (t : V) (b : Bool), xs = [.ref a, t] ∧ H a = some (exV D a) ∧ ExcC K D ∧
  ((∃ u, ClsV t u ∧ PySem.W.kitOne K (.ref D) u = some b) ∨ (∃ tp cs us, t = .ref tp ∧ H tp = some (.tup cs) ∧ Paired ClsV cs us ∧ PySem.W.kitAny K (.ref D) us = some b)) ∧ Q (.bl b) H
theorem call_isV {X : Cx} : CallR X (.builtin "isinstance") (rIsV X.K) := by
  intro pins s σ H xs us Q I r h
  obtain ⟨a, D, t, b, rfl, hH, C, ht, q⟩ := h
  obtain ⟨u1, u2, rfl, r1, r2⟩ := vals2 r
  cases (show u1 = Value.ref a from r1)
  obtain ⟨⟨vs, sl, hget⟩, _, _⟩ := I.hok a _ hH
  have J : PySem.W.InstAt s.heap a ⟨.ref D, none, .fields vs, sl⟩ D none := ⟨hget, rfl, rfl, trivial⟩
  have Z := PySem.W.handS_kitx_exc (x := a) (ox := ⟨.ref D, none, .fields vs, sl⟩) C.hg C.hk C.hs C.hd C.ha C.hn C.ht C.hm
  rcases ht with ⟨u, k, e⟩ | ⟨tp, cs, us, rfl, hT, k, e⟩
  · obtain rfl := k.eq r2
    exact PySem.W.kia_one Z I.kIn J e (fun z => nomatch z) fun tk => ⟨.bl b, H, I.tok tk, rfl, q⟩
  · cases (show u2 = Value.ref tp from r2)
    obtain ⟨_, its, rv, o, g1, g2, n, g3⟩ := (show ObjOk X.prog X.w H s.heap tp (.tup cs) from I.hok tp _ hT)
    obtain rfl := ClsV.all k rv
    obtain ⟨oc, od, dt, osl⟩ := o
    simp only at g2 g3
    subst g2 g3
    exact PySem.W.kia_tup Z I.kIn J g1 e (fun z => nomatch z) fun tk => ⟨.bl b, H, I.tok tk, rfl, q⟩
end Z

set_option Elab.async false
set_option linter.all false
set_option maxRecDepth 100000
set_option maxHeartbeats 4000000
/-! Obj: objects of own classes. -/
namespace Z
open PySem L2 PySem.Spec PyProof.Rows
theorem insO_some {c : Str} {a : D} {S : Store} {n : Nat} {fs : List (Str × D)} (h : insO c a S = some (n, fs)) : a = .ref n ∧ S[n]? = some (.ins c fs) := by
  unfold insO at h
  split at h
  · rename_i m
    split at h
    · rename_i c' gs ho
      split at h
      · rename_i hc
        cases h
        subst hc
        exact ⟨rfl, ho⟩
      · cases h
    · cases h
  · cases h
section
variable {K : KW} {al : Nat → Addr} {n : Nat} {U : List Addr} {H : Hp}
theorem look_rep {f : Str} : ∀ {fs : List (Str × D)} {us : List (Str × V)}, us.map (·.1) = fs.map (·.1) → Reps K al n U H (fs.map (·.2)) (us.map (·.2)) →
    (∀ d, fs.lookup f = some d → ∃ v, us.lookup f = some v ∧ Rep K al n U H d v) ∧ (fs.lookup f = none → us.lookup f = none)
  | [], [], _, _ => ⟨fun d h => by simp at h, fun _ => rfl⟩
  | [], _ :: _, h, _ => by simp at h
  | _ :: _, [], h, _ => by simp at h
  | (g, d0) :: fs, (g', v0) :: us, h, r => by
    simp only [List.map_cons, List.cons.injEq] at h
    obtain ⟨rfl, h⟩ := h
    simp only [List.map_cons, Reps] at r
    obtain ⟨v, r', e, r1, r2⟩ := r
    cases e
    obtain ⟨i1, i2⟩ := look_rep h r2
    rw [List.lookup_cons, List.lookup_cons]
    cases hg : f == g' with
    | true => exact ⟨fun d e => by cases e; exact ⟨_, rfl, r1⟩, fun e => nomatch e⟩
    | false => exact ⟨i1, i2⟩
theorem put_rep {f : Str} {d : D} {v : V} (rd : Rep K al n U H d v) : ∀ {fs : List (Str × D)} {us : List (Str × V)}, us.map (·.1) = fs.map (·.1) → Reps K al n U H (fs.map (·.2)) (us.map (·.2)) →
    (putF f v us).map (·.1) = (putFD f d fs).map (·.1) ∧ Reps K al n U H ((putFD f d fs).map (·.2)) ((putF f v us).map (·.2))
  | [], [], _, _ => ⟨rfl, by simp only [putFD, putF, List.map_cons, List.map_nil, Reps]; exact ⟨_, _, rfl, rd, rfl⟩⟩
  | [], _ :: _, h, _ => by simp at h
  | _ :: _, [], h, _ => by simp at h
  | (g, d0) :: fs, (g', v0) :: us, h, r => by
    simp only [List.map_cons, List.cons.injEq] at h
    obtain ⟨rfl, h⟩ := h
    simp only [List.map_cons, Reps] at r
    obtain ⟨w, r', e, r1, r2⟩ := r
    cases e
    obtain ⟨i1, i2⟩ := put_rep rd h r2
    by_cases hg : g' = f
    · simp only [putF, putFD, hg, if_true, List.map_cons]
      exact ⟨by rw [h], by simp only [Reps]; exact ⟨_, _, rfl, rd, r2⟩⟩
    · simp only [putF, putFD, if_neg hg, List.map_cons]
      exact ⟨by rw [i1], by simp only [Reps]; exact ⟨_, _, rfl, r1, i2⟩⟩
end
/-- the class c of the text -/
def ClsAt (K : PySem.W.Frag) (c : Str) (C : Addr) : Prop := PySem.W.nsIn K mainGlobals c = some (some (.ref C)) ∧ Cls K C
theorem ins_at {K : KW} {al : Nat → Addr} {U : List Addr} {S : Store} {H : Hp} {c : Str} {C : Addr} {n : Nat} {fs : List (Str × D)} (hc : ClsAt K.K c C) (sr : SR K al U S H) (h : S[n]? = some (.ins c fs)) :
    ∃ dx us, H (al n) = some (.ins C dx us) ∧ us.map (·.1) = fs.map (·.1) ∧ Reps K al S.length U H (fs.map (·.2)) (us.map (·.2)) := by
  obtain ⟨C', dx, us, hC, ho, hk, hr⟩ := sr.obj n _ h
  have : C' = C := by
    have := hC.symm.trans hc.1
    cases this
    rfl
  subst this
  exact ⟨dx, us, ho, hk, hr⟩
section
variable {X : Cx} {P : Pg} {k j : Nat} {c m f key x : Str} {C g : Addr} {e o value : Expr} {es : List Expr} {pos pos' apos p : Pos} {fa fv : Env → Store → R (D × Store)} {fs : Env → Store → R (List D × Store)} {fd : FuncData} {ps : List Str}
theorem se_fld (hc : ClsAt X.K c C) (na : NoAttr X.K C f) (he : PE X e (tEv X.kw fa)) (hb : attributeBase e f X.env (eval e X.env) = eval e X.env) : PE X (.Attribute e f pos) (tEv X.kw fun rho S => (fa rho S).bind fun p => fldD c p.1 f p.2) := by
  refine pe_weak (pe_fld he hb) fun σ H Q ⟨al, U, S, rho, d, S', sr, er, e, q⟩ => ?_
  obtain ⟨⟨d1, S1⟩, e1, e⟩ := R.bind_ok e
  refine ⟨al, U, S, rho, d1, S1, sr, er, e1, fun v H1 al1 n1 sr1 r1 => ?_⟩
  unfold fldD at e
  simp only at e
  split at e
  · rename_i n gs hi
    split at e
    · rename_i d2 hl
      cases e
      obtain ⟨rfl, ho⟩ := insO_some hi
      obtain ⟨dx, us, h1, h2, h3⟩ := ins_at hc sr1 ho
      simp only [Rep] at r1
      obtain ⟨hn, rfl⟩ := r1
      obtain ⟨w, hw, rw'⟩ := (look_rep h2 h3).1 _ hl
      exact ⟨al1 n, C, dx, us, w, rfl, h1, hc.2, na, hw, q w H1 al1 n1 sr1 rw'⟩
    · cases e
  · cases e
theorem hasM_some {d : D} {S : Store} (h : hasM c m d S = true) : ∃ n gs, d = .ref n ∧ S[n]? = some (.ins c gs) ∧ gs.lookup m = none := by
  unfold hasM at h
  split at h
  · rename_i n gs hi
    obtain ⟨rfl, ho⟩ := insO_some hi
    exact ⟨n, gs, rfl, ho, Option.isNone_iff_eq_none.mp h⟩
  · cases h
theorem se_meth {pl : Sem Bool} (hc : ClsAt X.K c C) (hm : Meth X.K C m g) (F : FnOk X.prog X.w X.kw X.mg X.base (L2.CX X.prog X.w) j g fd ps (spOf X.kw P k key)) (hr : Room j X.A) (hb : Binds X.kw fd ps []) (he : PE X o (tEv X.kw fa)) (ha : PA X (e :: es) (tEvs X.kw fs))
    (hst : starEach (e :: es) X.env = (false, eval e X.env) :: starEach es X.env) (hpl : (backTo pos (starEach es X.env)).any (·.1) = false)
    (ht : eval (.Call (.Attribute o m apos) (e :: es) [] pos) X.env = (do
      let ov ← eval o X.env
      standAt apos.atName
      let (f, first) ← holding [ov] (getMethod ov m pl)
      callWith pos f first (backTo pos (starEach (e :: es) X.env)) (backToKw pos (keywordEach [] X.env)))) :
    PE X (.Call (.Attribute o m apos) (e :: es) [] pos) (tEv X.kw fun rho S => (fa rho S).bind fun p => if hasM c m p.1 p.2 then (fs rho p.2).bind fun q => callF P k key (p.1 :: q.1) q.2 else .bad) := by
  refine pe_weak (pe_meth (pl := pl) (sp := spOf X.kw P k key) (dvs := []) (E := E0) he hc.2 hm F hr hb .nil passL ha hst hpl ht) fun σ H Q ⟨al, U, S, rho, d, S', sr, er, e, q⟩ => ?_
  obtain ⟨⟨d1, S1⟩, e1, e⟩ := R.bind_ok e
  simp only at e
  split at e
  · rename_i hmm
    obtain ⟨⟨ds, S2⟩, e2, e⟩ := R.bind_ok e
    obtain ⟨n, gs, rfl, ho, hl⟩ := hasM_some hmm
    refine ⟨al, U, S, rho, _, S1, sr, er, e1, fun v H1 al1 n1 sr1 r1 => ?_⟩
    obtain ⟨dx, us, h1, h2, h3⟩ := ins_at hc sr1 ho
    have r1' := r1
    simp only [Rep] at r1'
    obtain ⟨hn, rfl⟩ := r1'
    refine ⟨al1 n, dx, us, rfl, h1, (look_rep h2 h3).2 hl, al1, U, S1, rho, ds, S2, sr1, er.nxt n1, e2, fun vs H2 al2 n2 sr2 r2 => ?_⟩
    show spOf X.kw P k key (.ref (al1 n) :: (vs ++ [])) H2 Q E0
    rw [List.append_nil]
    exact ⟨al2, U, S2, .ref n :: ds, sr2, by simp only [Reps]; exact ⟨_, _, rfl, Rep.nxt n2 _ _ r1, r2⟩, .inl ⟨d, S', e, fun v3 H3 al3 n3 sr3 r3 => q v3 H3 al3 (sr2.trans (sr1.trans n1 n2) n3) sr3 r3⟩⟩
  · cases e
theorem se_meth0 {pl : Sem Bool} (hc : ClsAt X.K c C) (hm : Meth X.K C m g) (F : FnOk X.prog X.w X.kw X.mg X.base (L2.CX X.prog X.w) j g fd ps (spOf X.kw P k key)) (hr : Room j X.A) (hb : Binds X.kw fd ps []) (he : PE X o (tEv X.kw fa))
    (ht : eval (.Call (.Attribute o m apos) [] [] pos) X.env = (do
      let ov ← eval o X.env
      standAt apos.atName
      let (f, first) ← holding [ov] (getMethod ov m pl)
      callWith pos f first (backTo pos (starEach [] X.env)) (backToKw pos (keywordEach [] X.env)))) :
    PE X (.Call (.Attribute o m apos) [] [] pos) (tEv X.kw fun rho S => (fa rho S).bind fun p => if hasM c m p.1 p.2 then callF P k key [p.1] p.2 else .bad) := by
  refine pe_weak (pe_meth0 (pl := pl) (sp := spOf X.kw P k key) (dvs := []) (E := E0) he hc.2 hm F hr hb .nil passL ht) fun σ H Q ⟨al, U, S, rho, d, S', sr, er, e, q⟩ => ?_
  obtain ⟨⟨d1, S1⟩, e1, e⟩ := R.bind_ok e
  simp only at e
  split at e
  · rename_i hmm
    obtain ⟨n, gs, rfl, ho, hl⟩ := hasM_some hmm
    refine ⟨al, U, S, rho, _, S1, sr, er, e1, fun v H1 al1 n1 sr1 r1 => ?_⟩
    obtain ⟨dx, us, h1, h2, h3⟩ := ins_at hc sr1 ho
    have r1' := r1
    simp only [Rep] at r1'
    obtain ⟨hn, rfl⟩ := r1'
    refine ⟨al1 n, dx, us, rfl, h1, (look_rep h2 h3).2 hl, ?_⟩
    exact ⟨al1, U, S1, [.ref n], sr1, by simp only [Reps]; exact ⟨_, _, rfl, r1, rfl⟩, .inl ⟨d, S', e, fun v3 H3 al3 n3 sr3 r3 => q v3 H3 al3 (sr1.trans n1 n3) sr3 r3⟩⟩
  · cases e
theorem new_spec (hc : ClsAt X.K c C) {al : Nat → Addr} {U : List Addr} {S S' : Store} {H : Hp} {d : D} {Q : VK} {ds : List D} {vs : List V} (sr : SR X.kw al U S H) (rs : Reps X.kw al S.length U H ds vs)
    (e : (callF P k key (.ref S.length :: ds) (S ++ [.ins c []])).bind (noneD S.length) = .ok (d, S')) (q : ∀ v H' al', Nxt al S.length H al' S'.length H' → SR X.kw al' U S' H' → Rep X.kw al' S'.length U H' d v → Q v H')
    (x dx : Addr) (hx : H x = none) (hdx : H dx = none) (hne : dx ≠ x) : spOf X.kw P k key (.ref x :: vs) (upd (upd H dx (.own x)) x (.ins C dx [])) (fun v H2 => v = .non ∧ Q (.ref x) H2) E0 := by
  obtain ⟨⟨r, S2⟩, e1, e2⟩ := R.bind_ok e
  unfold noneD at e2
  simp only at e2
  split at e2
  · cases e2
    obtain ⟨n2, sr2⟩ := sr.lay hdx (.own x)
    have hx' : upd H dx (.own x) x = none := by rw [upd_ne hne.symm]; exact hx
    obtain ⟨n3, sr3, ex⟩ := sr2.make hx' (ho := .ins C dx []) (o := .ins c []) (fun g => ⟨C, dx, [], hc.1, upd_same, rfl, by simp only [List.map_nil, Reps]⟩)
    have n23 := sr2.trans n2 n3
    have hlt : S.length < (S ++ [O.ins c []]).length := by simp
    refine ⟨_, U, _, .ref S.length :: ds, sr3, ?_, .inl ⟨.non, _, e1, fun v H' al' n4 sr4 r4 => ⟨by simpa only [Rep] using r4, ?_⟩⟩⟩
    · simp only [Reps]
      exact ⟨_, _, rfl, by simp only [Rep]; exact ⟨hlt, by rw [ex]⟩, Reps.nxt n23 _ _ rs⟩
    · refine q _ H' al' (sr3.trans n23 n4) sr4 ?_
      simp only [Rep]
      exact ⟨Nat.lt_of_lt_of_le hlt n4.le, by rw [n4.agr _ hlt, ex]⟩
  · cases e2
theorem se_new (hc : ClsAt X.K c C) (M : Mk X.K C g) (F : FnOk X.prog X.w X.kw X.mg X.base (L2.CX X.prog X.w) j g fd ps (spOf X.kw P k key)) (hr : Room (j + 1) X.A) (hg : Gl X x) (hmg : X.mg x = some (.ref C)) (hb : Binds X.kw fd ps [])
    (ha : PA X (e :: es) (tEvs X.kw fs)) (hdb : (x == ("__debug__" : Str)) = false) (he : starEach (e :: es) X.env = (false, eval e X.env) :: starEach es X.env) (hpl : (backTo pos (starEach es X.env)).any (·.1) = false) :
    PE X (.Call (.Name x p) (e :: es) [] pos) (tEv X.kw fun rho S => (fs rho S).bind fun p => (callF P k key (.ref p.2.length :: p.1) (p.2 ++ [.ins c []])).bind (noneD p.2.length)) := by
  refine pe_weak (pe_make M F hr hg hmg hb .nil passL ha hdb he hpl) fun σ H Q ⟨al, U, S, rho, d, S', sr, er, e, q⟩ => ?_
  obtain ⟨⟨ds, S1⟩, e1, e⟩ := R.bind_ok e
  refine ⟨al, U, S, rho, ds, S1, sr, er, e1, fun vs H1 al1 n1 sr1 r1 x dx hx hdx hne => ?_⟩
  show spOf X.kw P k key (.ref x :: (vs ++ [])) (upd (upd H1 dx (.own x)) x (.ins C dx [])) (fun v H2 => v = .non ∧ Q (.ref x) H2) E0
  rw [List.append_nil]
  exact new_spec hc sr1 r1 e (fun v H' al' n' sr' r' => q v H' al' (sr1.trans n1 n') sr' r') x dx hx hdx hne
theorem se_setf {W : WX} (hc : ClsAt X.K c C) (na : NoAttr X.K C f) (ho : PE X o (tEv X.kw fa)) (hv : PE X value (tEv X.kw fv)) (hs : swapsWith value (some (.Attribute o f pos')) pos.line X.env = pure false) :
    PS X (.Assign [.Attribute o f pos'] value pos) (tEvS X.kw W fun rho S => (fv rho S).bind fun p => (fa rho p.2).bind fun q => (setFD c q.1 f p.1 q.2).bind fun s' => .ok (.nx, rho, s')) := by
  refine ps_weak (ps_fld ho hv hs) fun D σ H ⟨al, U, S, rho, fl, rho', S', sr, er, e, q⟩ => ?_
  obtain ⟨⟨d1, S1⟩, e1, e⟩ := R.bind_ok e
  obtain ⟨⟨d2, S2⟩, e2, e⟩ := R.bind_ok e
  obtain ⟨S3, e3, e⟩ := R.bind_ok e
  cases e
  refine ⟨al, U, S, rho, d1, S1, sr, er, e1, fun v H1 al1 n1 sr1 r1 => ⟨al1, U, S1, rho, d2, S2, sr1, er.nxt n1, e2, fun w H2 al2 n2 sr2 r2 => ?_⟩⟩
  unfold setFD at e3
  simp only at e3
  split at e3
  · rename_i n gs hi
    split at e3
    · rename_i hlen
      cases e3
      obtain ⟨rfl, hob⟩ := insO_some hi
      obtain ⟨dx, us, h1, h2, h3⟩ := ins_at hc sr2 hob
      have r2' := r2
      simp only [Rep] at r2'
      obtain ⟨hn, rfl⟩ := r2'
      have hl : us.length = gs.length := by
        have := congrArg List.length h2
        simpa using this
      refine ⟨al2 n, C, dx, us, rfl, h1, hc.2, na, by rw [hl]; exact hlen, ?_⟩
      have rv := Rep.nxt n2 _ _ r1
      obtain ⟨p1, p2⟩ := put_rep (f := f) rv h2 h3
      obtain ⟨n3, sr3⟩ := sr2.put hn (ho := .ins C dx (putF f v us)) (o := .ins c (putFD f d1 gs)) (fun g => ⟨C, dx, _, hc.1, upd_same, p1, Reps.nxt g _ _ p2⟩)
      have n12 := sr1.trans n1 n2
      exact q σ _ al2 (sr2.trans n12 n3) sr3 (er.nxt (sr2.trans n12 n3))
    · cases e3
  · cases e3
end
end Z

set_option Elab.async false
set_option linter.all false
set_option maxRecDepth 100000
set_option maxHeartbeats 4000000
/-! Chk: which code stands for which text; it says what the model does: expressions. -/
namespace Z
open PySem L2 PySem.Spec PyProof.Rows

theorem R.bind_assoc {A B C : Type} (r : R A) (f : A → R B) (g : B → R C) : R.bind (R.bind r f) g = R.bind r fun a => R.bind (f a) g := by
  cases r <;> rfl

/-- what a text leans on: names of what is built in, of defs, of constants -/
structure Tab where
  bl : List Str
  fn : List Str
  gl : List Str
  cl : List Str
  rs : List Str
  fl : List (Str × Str)
  ms : List (Str × Str × Str)
  mc : List (Str × Str)
def visC (sc : Scope) (x : Str) : Bool := match sc.names.lookup x with
  | some .local => true
  | some .cell => true
  | some .free => true
  | _ => false
def locC (sc : Scope) (x : Str) : Bool := match sc.names.lookup x with
  | some .local => true
  | some .cell => true
  | _ => false
def gloC (sc : Scope) (x : Str) : Bool := match sc.names.lookup x with
  | some .globalImplicit => true
  | _ => false
def okN (x : Str) : Bool := !(x == ("__debug__" : Str)) && !(x == ("__classdict__" : Str)) && !decide (x = ("__name__" : Str))
def notStar : Expr → Bool
  | .Starred _ _ => false
  | _ => true
def notSet : Expr → Bool
  | .Set _ _ _ => false
  | _ => true
def chkC (T : Tab) (sc : Scope) (y : Str) : Bool := gloC sc y && okN y && (T.cl.contains y || (decide (y = ("ValueError" : Str)) && T.bl.contains y))
def chkCs (T : Tab) (sc : Scope) : List Str → List Expr → Bool
  | [], [] => true
  | c :: cs, .Name y _ :: es => decide (c = y) && chkC T sc y && chkCs T sc cs es
  | _, _ => false
def isTupE : Expr → Bool
  | .Tuple _ _ _ => true
  | _ => false
def notSlice : Expr → Bool
  | .Slice _ _ _ _ => false
  | _ => true
def notCall0 : Expr → Bool
  | .Call (.Name _ _) [] [] _ => false
  | _ => true
def btName : Bt → Str
  | .len => "len" | .tuple => "tuple" | .list => "list" | .listRg => "list" | .tupRg => "tuple" | .divmod => "divmod" | .sorted => "sorted" | .sortedSet => "sorted" | .lenSet => "len" | .inRg => "range" | .notInRg => "range" | .max2 => "max" | .min2 => "min" | .dict => "dict" | .dictN => "dict"
  | .all => "all" | .any => "any" | .sum => "sum" | .int => "int" | .strI => "str" | .isTy _ => "isinstance"
def btPlain : Bt → Bool
  | .len | .tuple | .list | .divmod | .sorted | .max2 | .min2 | .all | .any | .dict | .dictN | .int | .strI => true
  | _ => false
def tyN' (t : Ty) : Str := Str.ofString (tyN t)
def mtName : Mt → Str
  | .join => "join" | .append => "append" | .index => "index" | .indexT => "index" | .extend => "extend" | .get2 => "get" | .upper => "upper" | .setdef => "setdefault" | .indexL => "index" | .pop0 => "pop" | .popI => "pop" | .insert => "insert"
def mtPlain : Mt → Bool
  | .join | .append | .index | .indexT | .extend | .get2 | .setdef | .indexL | .popI | .insert => true
  | _ => false
def isYes : E → Bool
  | .con (.bl true) => true
  | _ => false
def chkD : D → Const → Bool
  | .non, .none => true
  | .bl b, .bool c => b == c
  | .int i, .int j => i == j
  | .str s, .str x => decide (x = toS s) && decide (s.length ≤ 10000)
  | _, _ => false
def chkNames (N : List Str) (sc : Scope) : List Nat → List Expr → Bool
  | [], [] => true
  | i :: is, .Name x _ :: es => decide (N[i]? = some x) && locC sc x && chkNames N sc is es
  | _, _ => false
/-- a loop's target -/
def chkT (N : List Str) (sc : Scope) (g : List Nat) (one : Bool) (tg : Expr) : Bool :=
  if one then (match g, tg with
    | [i], .Name x _ => decide (N[i]? = some x) && locC sc x
    | _, _ => false)
  else match tg with
    | .Tuple es _ _ => chkNames N sc g es
    | _ => false
def ownP (N : List Str) (own : List Nat) : List (Str × Nat) := own.map fun i => (N.getD i Str.empty, i)

mutual
def chkE (T : Tab) (N : List Str) (sc : Scope) : E → Expr → Bool
  | .var i, e => match e with
    | .Name x _ => decide (N[i]? = some x) && visC sc x && okN x
    | _ => false
  | .con d, e => match e with
    | .Constant c _ _ => chkD d c
    | _ => false
  | .glo x, e => match e with
    | .Name y _ => decide (x = y) && gloC sc y && okN y && T.gl.contains x
    | _ => false
  | .tup cs, e => match e with
    | .Tuple es _ _ => chkEs T N sc cs es && decide (es.length ≤ 1000)
    | _ => false
  | .lst _ cs, e => match e with
    | .List es _ => chkEs T N sc cs es && decide (es.length ≤ 1000)
    | _ => false
  | .dct ks vs, e => match ks, vs, e with
    | [], [], .Dict [] [] _ => true
    | [a, c], [b, d], .Dict [some a', some c'] [b', d'] _ => chkE T N sc a a' && chkE T N sc c c' && chkE T N sc b b' && chkE T N sc d d'
    | _, _, _ => false
  | .dcn ks vs, e => match ks, vs, e with
    | [], [], .Dict [] [] _ => true
    | [a], [b], .Dict [some a'] [b'] _ => chkE T N sc a a' && chkE T N sc b b'
    | _, _, _ => false
  | .bin o a b, e => match e with
    | .BinOp a' op b' _ => decide (op = opA o) && chkE T N sc a a' && chkE T N sc b b'
    | _ => false
  | .neg a, e => match e with
    | .UnaryOp .USub a' _ => chkE T N sc a a'
    | _ => false
  | .not a, e => match e with
    | .UnaryOp .Not a' _ => chkE T N sc a a'
    | _ => false
  | .and cs, e => match e with
    | .BoolOp .And es _ => chkEs T N sc cs es
    | _ => false
  | .or cs, e => match e with
    | .BoolOp .Or es _ => chkEs T N sc cs es
    | _ => false
  | .orv a b, e => match e with
    | .BoolOp .Or [a', b'] _ => chkE T N sc a a' && chkE T N sc b b'
    | _ => false
  | .cmp o a b, e => match e with
    | .Compare a' [op] [b'] _ => decide (op = cmA o) && notSet b' && chkE T N sc a a' && chkE T N sc b b'
    | _ => false
  | .chain o o' a b c, e => match e with
    | .Compare a' [op, op'] [b', c'] _ => decide (op = cmA o) && decide (op' = cmA o') && notSet b' && notSet c' && chkE T N sc a a' && chkE T N sc b b' && chkE T N sc c c'
    | _ => false
  | .ix a i, e => match e with
    | .Subscript a' i' _ => notSlice i' && chkE T N sc a a' && chkE T N sc i i'
    | _ => false
  | .sl _ a l lo h hi, e => match e with
    | .Subscript a' (.Slice lo' hi' none _) _ => chkE T N sc a a' &&
        (match lo' with
        | none => !l
        | some x => l && chkE T N sc lo x) &&
        (match hi' with
        | none => !h
        | some x => h && chkE T N sc hi x)
    | _ => false
  | .rev a, e => match e with
    | .Subscript a' (.Slice none none (some (.UnaryOp .USub (.Constant (.int 1) _ _) _)) _) _ => chkE T N sc a a'
    | _ => false
  | .no, _ => false
  | .call f cs, e => match e with
    | .Call (.Name x _) es [] _ => decide (f = x) && gloC sc x && okN x && T.fn.contains f && chkEs T N sc cs es
    | _ => false
  | .callv i cs, e => match e with
    | .Call (.Name x _) (e' :: es') [] _ => decide (N[i]? = some x) && visC sc x && okN x && chkEs T N sc cs (e' :: es')
    | _ => false
  | .fld c a f, e => match e with
    | .Attribute a' f' _ => decide (f = f') && notCall0 a' && T.fl.contains (c, f) && chkE T N sc a a'
    | _ => false
  | .new c f cs, e => match e with
    | .Call (.Name x _) (e' :: es') [] _ => decide (c = x) && gloC sc x && okN x && T.mc.contains (c, f) && chkEs T N sc cs (e' :: es')
    | _ => false
  | .meth c m f o cs, e => match e with
    | .Call (.Attribute o' name apos) es [] cpos => decide (m = name) && T.ms.contains (c, m, f) && notCall0 o' && (apos.endLine == cpos.line) && decide (es.length < 20) && chkE T N sc o o' && chkEs T N sc cs es
    | _ => false
  | .blt _ b cs, e => match e with
    | .Call (.Name x _) es [] _ => (match b, es with
        | .isTy t, [a', .Name y _] => decide (x = btName b) && gloC sc x && T.bl.contains x && decide (y = tyN' t) && gloC sc y && T.bl.contains y && okN y && !decide (t = .non) && notStar a' && chkEs T N sc cs [a']
        | .listRg, [.Call (.Name y _) [a'] [] _] => decide (x = ("list" : Str)) && gloC sc x && T.bl.contains x && okN x && decide (y = ("range" : Str)) && gloC sc y && T.bl.contains y && notStar a' && chkEs T N sc cs [a']
        | .tupRg, [.Call (.Name y _) [a'] [] _] => decide (x = ("tuple" : Str)) && gloC sc x && T.bl.contains x && okN x && decide (y = ("range" : Str)) && gloC sc y && T.bl.contains y && notStar a' && chkEs T N sc cs [a']
        | .sortedSet, [.Call (.Name y _) [a'] [] _] => decide (x = ("sorted" : Str)) && gloC sc x && T.bl.contains x && decide (y = ("set" : Str)) && gloC sc y && T.bl.contains y && notStar a' && chkEs T N sc cs [a']
        | .lenSet, [.Call (.Name y _) [a'] [] _] => decide (x = ("len" : Str)) && gloC sc x && T.bl.contains x && decide (y = ("set" : Str)) && gloC sc y && T.bl.contains y && notStar a' && chkEs T N sc cs [a']
        | _, e' :: es' => decide (x = btName b) && btPlain b && gloC sc x && okN x && T.bl.contains x && chkEs T N sc cs (e' :: es')
        | _, _ => false)
    | .Compare a' [op] [.Call (.Name y _) [b'] [] _] _ => (match b with
        | .inRg => decide (op = .In) && decide (y = ("range" : Str)) && gloC sc y && T.bl.contains y && notStar b' && chkEs T N sc cs [a', b']
        | .notInRg => decide (op = .NotIn) && decide (y = ("range" : Str)) && gloC sc y && T.bl.contains y && notStar b' && chkEs T N sc cs [a', b']
        | _ => false)
    | _ => false
  | .mth t o cs, e => match e with
    | .Call (.Attribute o' name apos) [] [] cpos => (match t, cs with
        | .upper, [] => decide (name = ("upper" : Str)) && notCall0 o' && (apos.endLine == cpos.line) && chkE T N sc o o'
        | .pop0, [] => decide (name = ("pop" : Str)) && notCall0 o' && (apos.endLine == cpos.line) && chkE T N sc o o'
        | _, _ => false)
    | .Call (.Attribute o' name apos) (e' :: es') [] cpos => decide (name = mtName t) && mtPlain t && notCall0 o' && (apos.endLine == cpos.line) && decide (es'.length < 20) && chkE T N sc o o' && chkEs T N sc cs (e' :: es')
    | _ => false
  | .isx a rs cs tup, e => match e with
    | .Call (.Name x _) [a', t'] [] _ => decide (x = ("isinstance" : Str)) && gloC sc x && T.bl.contains x && notStar a' && chkE T N sc a a' && (rs.all fun r => T.rs.contains r) &&
        (match tup, t' with
        | false, .Name y p => chkCs T sc cs [.Name y p]
        | true, .Tuple es _ _ => chkCs T sc cs es && decide (es.length ≤ 1000)
        | _, _ => false)
    | _ => false
  | .comp _ own g one k its c e, e0 => match e0 with
    | .ListComp elt gens scope _ => match gens with
      | [⟨tg, iter, ifs, as⟩] => decide (as = 0) && blkC N sc scope (ownP N own) && (g.all fun i => own.contains i) && chkT N scope g one tg && chkI T N sc k tg its iter &&
          (match ifs with
          | [] => isYes c
          | [c'] => chkE T N scope c c'
          | _ => false) && chkE T N scope e elt
      | _ => false
    | _ => false
def chkEs (T : Tab) (N : List Str) (sc : Scope) : List E → List Expr → Bool
  | [], es => match es with
    | [] => true
    | _ => false
  | c :: cs, es => match es with
    | e :: es => notStar e && chkE T N sc c e && chkEs T N sc cs es
    | _ => false
def chkI (T : Tab) (N : List Str) (sc : Scope) (k : IK) (tg : Expr) : List E → Expr → Bool
  | [], _ => false
  | [c], iter => match k with
    | .sq => notSet iter && chkE T N sc c iter
    | .rng1 => match iter with
      | .Call (.Name x _) [a] [] _ => decide (x = ("range" : Str)) && gloC sc x && T.bl.contains x && notStar a && chkE T N sc c a
      | _ => false
    | .enum => match iter with
      | .Call (.Name x _) [a] [] _ => decide (x = ("enumerate" : Str)) && gloC sc x && T.bl.contains x && notStar a && isTupE tg && chkE T N sc c a
      | _ => false
    | _ => false
  | [c, d], iter => match k with
    | .rng2 => match iter with
      | .Call (.Name x _) [a, b] [] _ => decide (x = ("range" : Str)) && gloC sc x && T.bl.contains x && notStar a && notStar b && chkE T N sc c a && chkE T N sc d b
      | _ => false
    | .zip2 => match iter with
      | .Call (.Name x _) [a, b] [] _ => decide (x = ("zip" : Str)) && gloC sc x && T.bl.contains x && notStar a && notStar b && isTupE tg && chkE T N sc c a && chkE T N sc d b
      | _ => false
    | _ => false
  | [c, d, f], iter => match k with
    | .rng3 => match iter with
      | .Call (.Name x _) [a, b, g] [] _ => decide (x = ("range" : Str)) && gloC sc x && T.bl.contains x && notStar a && notStar b && notStar g && chkE T N sc c a && chkE T N sc d b && chkE T N sc f g
      | _ => false
    | _ => false
  | _ :: _ :: _ :: _ :: _, _ => false
end
end Z

set_option Elab.async false
set_option linter.all false
set_option maxRecDepth 100000
set_option maxHeartbeats 4000000
/-! Snd: what the code says is what the model does: expressions. -/
namespace Z
open PySem L2 PySem.Spec PyProof.Rows

/-- an own class of errors -/
structure ErrC (K : PySem.W.Frag) (mg : Str → Option Value) (c : Str) (C : Addr) : Prop where
  ns : PySem.W.nsIn K mainGlobals c = some (some (.ref C))
  mg : mg c = some (.ref C)
/-- one that is raised -/
structure RaiC (T : Tab) (K : PySem.W.Frag) (mg : Str → Option Value) (c : Str) (C : Addr) : Prop extends ErrC K mg c C where
  x : PySem.W.excIn K C [.type "ValueError", .type "Exception", .type "BaseException", .type "object"] "ValueError.__new__" = true
  kp : PySem.W.keepIn K (.ref C) = true
  b : PySem.W.subIn K (.ref C) (.type "BaseException") = some true
  t : PySem.W.typeIn K (.ref C) = some (.type "type")
  e : ExcC K C
  own : ∀ d ∈ T.cl, ∀ D, PySem.W.nsIn K mainGlobals d = some (some (.ref D)) → ∀ v, subC c d = some v → PySem.W.kitOne K (.ref C) (.ref D) = some v ∧ PySem.W.exmOne K (.ref C) (.ref D) = some v
  ve : PySem.W.kitOne K (.ref C) (.type "ValueError") = some true
/-- a context in which codes are right -/
structure Cok (P : Pg) (T : Tab) (k : Nat) (N : List Str) (sc : Scope) (X : Cx) : Prop where
  n : X.N = N
  nd : N.Nodup
  vis : ∀ x, visC sc x = true → Vis X.env.scope x
  loc : ∀ x, locC sc x = true → Loc X.env.scope x ∧ (X.fn x = true ∨ X.env.scope.names.lookup x = some .local)
  cel : ∀ x, (sc.names.lookup x = some .cell ∨ sc.names.lookup x = some .free) → (X.env.scope.names.lookup x = some .cell ∨ X.env.scope.names.lookup x = some .free)
  glb : ∀ x, gloC sc x = true → Gl X x
  calm : X.calm = true
  room : Room (2 * k + 1) X.A
  blt : ∀ x ∈ T.bl, X.mg x = none
  fn : ∀ x ∈ T.fn, ∃ f fd ps, FnOk X.prog X.w X.kw X.mg X.base (L2.CX X.prog X.w) (2 * k) f fd ps (spOf X.kw P k x) ∧ X.mg x = some (.ref f) ∧ PySem.W.keepIn X.kw (.ref f) = true ∧ Binds X.kw fd ps []
  glo : ∀ x ∈ T.gl, ∃ v u d, P.glo x = some d ∧ X.mg x = some u ∧ RelV v u ∧ ∀ al n U H, Rep X.kw al n U H d v
  nsf : ∀ x f, PySem.W.nsIn X.K mainGlobals x = some (some (.ref f)) → X.mg x = some (.ref f)
  tfn : ∀ x d, P.fn x = some d → x ∈ T.fn ∨ X.mg x = none
  cls : ∀ c ∈ T.cl, ∃ C, ErrC X.K X.mg c C
  rai : ∀ c ∈ T.rs, ∃ C, RaiC T X.K X.mg c C
  fld : ∀ q ∈ T.fl, ∃ C, ClsAt X.K q.1 C ∧ NoAttr X.K C q.2
  mth : ∀ q ∈ T.ms, ∃ C g fd ps, ClsAt X.K q.1 C ∧ Meth X.K C q.2.1 g ∧ FnOk X.prog X.w X.kw X.mg X.base (L2.CX X.prog X.w) (2 * k) g fd ps (spOf X.kw P k q.2.2) ∧ Binds X.kw fd ps []
  mkc : ∀ q ∈ T.mc, ∃ C g fd ps, ClsAt X.K q.1 C ∧ X.mg q.1 = some (.ref C) ∧ Mk X.K C g ∧ FnOk X.prog X.w X.kw X.mg X.base (L2.CX X.prog X.w) (2 * k) g fd ps (spOf X.kw P k q.2) ∧ Binds X.kw fd ps []
theorem Cok.rm {P : Pg} {T : Tab} {k : Nat} {N : List Str} {sc : Scope} {X : Cx} (h : Cok P T k N sc X) : Room (2 * k) X.A := h.room.mono (Nat.le_succ _)

/-- what every context has -/
structure Vok (T : Tab) (N : List Str) (sc : Scope) (X : Cx) : Prop where
  n : X.N = N
  nd : N.Nodup
  vis : ∀ x, visC sc x = true → Vis X.env.scope x
  loc : ∀ x, locC sc x = true → Loc X.env.scope x ∧ (X.fn x = true ∨ X.env.scope.names.lookup x = some .local)
  glb : ∀ x, gloC sc x = true → Gl X x
  un : X.A.units + 64 < cLine
  blt : ∀ x ∈ T.bl, X.mg x = none
  cls : ∀ c ∈ T.cl, ∃ C, ErrC X.K X.mg c C
  rai : ∀ c ∈ T.rs, ∃ C, RaiC T X.K X.mg c C
theorem Cok.v {P : Pg} {T : Tab} {k : Nat} {N : List Str} {sc : Scope} {X : Cx} (h : Cok P T k N sc X) : Vok T N sc X := ⟨h.n, h.nd, h.vis, h.loc, h.glb, h.room.units, h.blt, h.cls, h.rai⟩
theorem len1000 {n : Nat} (h : n ≤ 1000) : n ≤ sizeLine := by
  have : sizeLine = 16777216 := by decide
  omega
theorem okN_1 {x : Str} (h : okN x = true) : (x == ("__debug__" : Str)) = false ∧ (x == ("__classdict__" : Str)) = false ∧ x ≠ ("__name__" : Str) := by
  unfold okN at h
  simp only [Bool.and_eq_true, Bool.not_eq_true', decide_eq_false_iff_not] at h
  exact ⟨h.1.1, h.1.2, h.2⟩
theorem star_of {e : Expr} {es : List Expr} {env : PySem.Env} (h : notStar e = true) : starEach (e :: es) env = (false, eval e env) :: starEach es env := by
  cases e <;> first | rfl | cases h
end Z
namespace Z
open PySem L2 PySem.Spec PyProof.Rows
theorem nomark_of {op : CmpOp} {e : Expr} (h : notSet e = true) : behindInMarks op e = false := by
  cases e <;> first | rfl | cases h
theorem lastMarks_of {o o' : CmpOp} {b c : Expr} (h : notSet c = true) : lastMarks [o, o'] [b, c] = false := nomark_of h
theorem plainIx_of {e : Expr} (h : notSlice e = true) : PlainIx e := fun o i => by
  cases e <;> first | rfl | cases h
theorem fold_of {e : Expr} {env : PySem.Env} (h : notSet e = true) : ∀ x, foldedSetIterable e env x = pure x := fun x => by
  cases e <;> first | rfl | cases h
theorem backTo_of {pos : Pos} : ∀ (es : List Expr) (env : PySem.Env), (∀ e ∈ es, notStar e = true) → (backTo pos (starEach es env)).any (·.1) = false
  | [], _, _ => rfl
  | e :: es, env, h => by
    rw [star_of (h e List.mem_cons_self)]
    show (false || (backTo pos (starEach es env)).any (·.1)) = false
    rw [backTo_of es env fun x hx => h x (List.mem_cons_of_mem _ hx)]
    rfl
theorem chkEs_star {T : Tab} {N : List Str} {sc : Scope} : ∀ {cs : List E} {es : List Expr}, chkEs T N sc cs es = true → (∀ e ∈ es, notStar e = true) ∧ es.length = cs.length
  | [], es, h => by
    unfold chkEs at h
    split at h
    · exact ⟨fun _ h => (nomatch h), rfl⟩
    · cases h
  | c :: cs, es, h => by
    unfold chkEs at h
    split at h
    · rename_i e es'
      simp only [Bool.and_eq_true] at h
      obtain ⟨a, b⟩ := chkEs_star h.2
      refine ⟨fun x hx => ?_, by simp [b]⟩
      rcases List.mem_cons.mp hx with rfl | hx
      · exact h.1.1
      · exact a x hx
    · cases h
theorem base_of {o : Expr} {name : Str} {env : PySem.Env} (h : notCall0 o = true) : attributeBase o name env (eval o env) = eval o env := by
  cases o with
  | Call f args kws pos =>
    cases f with
    | Name id p =>
      cases args with
      | nil =>
        cases kws with
        | nil => cases h
        | cons _ _ => rfl
      | cons _ _ => rfl
    | _ => rfl
  | _ => rfl
theorem evEs_len {G : Ctx} : ∀ {cs : List E} {rho : Env} {S : Store} {p : List D × Store}, evEs G cs rho S = .ok p → p.1.length = cs.length
  | [], _, _, _, h => by
    simp only [evEs] at h
    cases h
    rfl
  | c :: cs, rho, S, p, h => by
    simp only [evEs] at h
    obtain ⟨p1, e1, h⟩ := R.bind_ok h
    obtain ⟨p2, e2, h⟩ := R.bind_ok h
    cases h
    simp [evEs_len e2]
theorem relabel_lookup {scope : Scope} {env : PySem.Env} {x : Str} {k : NameKind} (h : scope.names.lookup x = some k) : (relabel scope env).names.lookup x = some k ∨ (k = .free ∧ (relabel scope env).names.lookup x = some .cell) := by
  unfold relabel
  simp only
  have : ∀ (names : List (Str × NameKind)), names.lookup x = some k →
      (names.map fun (n, k) => if (k == NameKind.free && env.scope.kind == .function && env.kindOf n == some .cell) then (n, NameKind.cell) else (n, k)).lookup x = some k ∨
      (k = .free ∧ (names.map fun (n, k) => if (k == NameKind.free && env.scope.kind == .function && env.kindOf n == some .cell) then (n, NameKind.cell) else (n, k)).lookup x = some .cell) := by
    intro names
    induction names with
    | nil => intro h; simp at h
    | cons p r ih =>
      obtain ⟨n, k'⟩ := p
      intro h
      rw [List.map_cons]
      dsimp only
      cases hx : x == n with
      | true =>
        simp only [List.lookup_cons, hx, Option.some.injEq] at h
        subst h
        by_cases hc : (k' == NameKind.free && env.scope.kind == .function && env.kindOf n == some .cell) = true
        · rw [if_pos hc]
          simp only [Bool.and_eq_true, beq_iff_eq] at hc
          exact .inr ⟨hc.1.1, by simp only [List.lookup_cons, hx]⟩
        · rw [if_neg hc]
          exact .inl (by simp only [List.lookup_cons, hx])
      | false =>
        simp only [List.lookup_cons, hx] at h
        by_cases hc : (k' == NameKind.free && env.scope.kind == .function && env.kindOf n == some .cell) = true
        · rw [if_pos hc]; simp only [List.lookup_cons, hx]; exact ih h
        · rw [if_neg hc]; simp only [List.lookup_cons, hx]; exact ih h
  exact this scope.names h
section
variable {P : Pg} {T : Tab} {k : Nat} {N : List Str} {sc : Scope} {X : Cx}
theorem Cok.blk {scope : Scope} {own : List (Str × Nat)} (h : Cok P T k N sc X) (s : Shared) (H : Hp) (C : Addr) (cl : List (Str × Addr)) (fp : List Addr) : Cok P T k N scope (X.blk s H scope (compEnvC scope cl C X.env) fp) := by
  refine ⟨h.n, h.nd, fun x hx => ?_, fun x hx => ?_, fun x hx => ?_, fun x hx => ?_, h.calm, h.room, h.blt, h.fn, h.glo, h.nsf, h.tfn, h.cls, h.rai, h.fld, h.mth, h.mkc⟩
  · unfold visC at hx
    split at hx <;> first | cases hx | skip
    all_goals (rename_i hl; rcases relabel_lookup (env := X.env) hl with z | ⟨z1, z2⟩)
    · exact .inl z
    · cases z1
    · exact .inr (.inl z)
    · cases z1
    · exact .inr (.inr z)
    · exact .inr (.inl z2)
  · unfold locC at hx
    split at hx <;> first | cases hx | skip
    all_goals (rename_i hl; rcases relabel_lookup (env := X.env) hl with z | ⟨z1, z2⟩)
    · exact ⟨.inl z, .inr z⟩
    · cases z1
    · exact ⟨.inr z, .inl (by show (scope.names.lookup x == some .cell) = true; rw [hl]; rfl)⟩
    · cases z1
  · rcases hx with hl | hl
    · rcases relabel_lookup (env := X.env) hl with z | ⟨z1, z2⟩
      · exact .inl z
      · cases z1
    · rcases relabel_lookup (env := X.env) hl with z | ⟨z1, z2⟩
      · exact .inr z
      · exact .inl z2
  · unfold gloC at hx
    split at hx <;> first | cases hx | skip
    rename_i hl
    rcases relabel_lookup (env := X.env) hl with z | ⟨z1, z2⟩
    · exact z
    · cases z1
theorem BlkOk.by_sc {scope : Scope} {own : List (Str × Nat)} (h : Cok P T k N sc X) (b : blkC N sc scope own = true) : BlkOk X.N X.env.scope scope own := by
  have q := blkOk_by b
  rw [h.n]
  refine ⟨q.kind, q.uniq, q.ix, fun y hy e => ?_, q.own⟩
  exact h.cel y.1 (q.free y hy e)
theorem names_pg (hC : Cok P T k N sc X) : ∀ {g : List Nat} {es : List Expr}, chkNames N sc g es = true → PGs X es (gNames g) ∧ (assignEach es X.env).length = g.length ∧ (assignEach es X.env).findIdx? (·.1) = none
  | [], [], _ => ⟨pgs_nil, rfl, rfl⟩
  | [], _ :: _, h => by simp [chkNames] at h
  | i :: is, [], h => by simp [chkNames] at h
  | i :: is, e :: es, h => by
    cases e with
    | Name x p =>
      simp only [chkNames, Bool.and_eq_true, decide_eq_true_eq] at h
      obtain ⟨a, b, c⟩ := names_pg hC h.2
      obtain ⟨l1, l2⟩ := hC.loc x h.1.2
      refine ⟨pgs_cons (pg_name (by rw [hC.n]; exact hC.nd) (by rw [hC.n]; exact h.1.1) l1 l2) a rfl, ?_, ?_⟩
      · show (assignEach es X.env).length + 1 = is.length + 1
        rw [b]
      · show ((false, assign (.Name x p) X.env) :: assignEach es X.env).findIdx? (·.1) = none
        rw [List.findIdx?_cons, c]
        rfl
    | _ => simp [chkNames] at h
theorem target_pg (hC : Cok P T k N sc X) {g : List Nat} {one : Bool} {tg : Expr} (h : chkT N sc g one tg = true) : PG X tg (gB X.kw g one) := by
  unfold chkT at h
  unfold gB
  cases one with
  | true =>
    rw [if_pos rfl] at h ⊢
    split at h
    · simp only [Bool.and_eq_true, decide_eq_true_eq] at h
      obtain ⟨l1, l2⟩ := hC.loc _ h.2
      exact pg_name (by rw [hC.n]; exact hC.nd) (by rw [hC.n]; exact h.1) l1 l2
    · cases h
  | false =>
    rw [if_neg Bool.false_ne_true] at h ⊢
    split at h
    · obtain ⟨a, b, c⟩ := names_pg hC h
      exact pg_tup hC.calm a b c
    · cases h
theorem hu64 (hC : Cok P T k N sc X) : X.A.units + 64 < cLine := hC.room.units
theorem hu1 (hC : Cok P T k N sc X) : X.A.units + 1 < cLine := by have := hC.room.units; omega
theorem Cok.held (hC : Cok P T k N sc X) {y : Str} {f : Addr} {ds : List D} {S : Store} {r : D × Store} (h : PySem.W.nsIn X.kw.K mainGlobals y = some (some (.ref f))) (e : callF P k y ds S = .ok r) : FnAt X (2 * k) f (spOf X.kw P k y) := by
  have hm := hC.nsf y f h
  cases k with
  | zero => cases e
  | succ k =>
    simp only [callF] at e
    split at e
    · rename_i d hd
      obtain ⟨f', fd, ps, F, hm', hk, hb⟩ := hC.fn y ((hC.tfn y d hd).resolve_right fun z => by rw [hm] at z; cases z)
      have : f' = f := by
        have := hm'.symm.trans hm
        cases this
        rfl
      subst this
      exact ⟨fd, ps, F, hk, hb⟩
    · cases e
/-- the plain ones of what is built in -/
theorem se_bt {b : Bt} {m : Bool} {x : Str} {e : Expr} {es : List Expr} {p pos : Pos} {fs : Env → Store → R (List D × Store)} (hC : Cok P T k N sc X) (hb : btPlain b = true) (hx : x = btName b) (hg : gloC sc x = true) (hn : okN x = true) (hm : x ∈ T.bl)
    (ha : PA X (e :: es) (tEvs X.kw fs)) (hs : ∀ z ∈ e :: es, notStar z = true) : PE X (.Call (.Name x p) (e :: es) [] pos) (tEv X.kw fun rho S => (fs rho S).bind fun p => bltD m b p.1 p.2) := by
  have h1 := hC.glb x hg
  have h2 := hC.blt x hm
  obtain ⟨n1, n2, n3⟩ := okN_1 hn
  have h3 : starEach (e :: es) X.env = (false, eval e X.env) :: starEach es X.env := star_of (hs e List.mem_cons_self)
  have h4 : (backTo pos (starEach es X.env)).any (·.1) = false := backTo_of es X.env fun z hz => hs z (List.mem_cons_of_mem _ hz)
  subst hx
  cases b with
  | len => exact pe_weak (pe_callB (bt_len m) h1 h2 (by decide +kernel) ha n3 n1 h3 h4) fun σ H Q h => tEv_call (g := bltD m .len) (fun _ _ _ h => h) h
  | tuple => exact pe_weak (pe_callTy (bt_tuple hC.calm m) h1 h2 (by decide +kernel) ha n3 n1 h3 h4) fun σ H Q h => tEv_call (g := bltD m .tuple) (fun _ _ _ h => h) h
  | list => exact pe_weak (pe_callTy (bt_list hC.calm m) h1 h2 (by decide +kernel) ha n3 n1 h3 h4) fun σ H Q h => tEv_call (g := bltD m .list) (fun _ _ _ h => h) h
  | divmod => exact pe_weak (pe_callB (bt_divmod m) h1 h2 (by decide +kernel) ha n3 n1 h3 h4) fun σ H Q h => tEv_call (g := bltD m .divmod) (fun _ _ _ h => h) h
  | sorted => exact pe_weak (pe_callB (bt_sorted hC.calm (hu64 hC) m) h1 h2 (by decide +kernel) ha n3 n1 h3 h4) fun σ H Q h => tEv_call (g := bltD m .sorted) (fun _ _ _ h => h) h
  | max2 => exact pe_weak (pe_callB (bt_max2 hC.calm m) h1 h2 (by decide +kernel) ha n3 n1 h3 h4) fun σ H Q h => tEv_call (g := bltD m .max2) (fun _ _ _ h => h) h
  | min2 => exact pe_weak (pe_callB (bt_min2 hC.calm m) h1 h2 (by decide +kernel) ha n3 n1 h3 h4) fun σ H Q h => tEv_call (g := bltD m .min2) (fun _ _ _ h => h) h
  | all => exact pe_weak (pe_callB (bt_all hC.calm m) h1 h2 (by decide +kernel) ha n3 n1 h3 h4) fun σ H Q h => tEv_call (g := bltD m .all) (fun _ _ _ h => h) h
  | dict => exact pe_weak (pe_callTy (bt_dict hC.calm m) h1 h2 (by decide +kernel) ha n3 n1 h3 h4) fun σ H Q h => tEv_call (g := bltD m .dict) (fun _ _ _ h => h) h
  | dictN => exact pe_weak (pe_callTy (bt_dictN hC.calm (hu64 hC) m) h1 h2 (by decide +kernel) ha n3 n1 h3 h4) fun σ H Q h => tEv_call (g := bltD m .dictN) (fun _ _ _ h => h) h
  | int => exact pe_weak (pe_callTy (bt_int m) h1 h2 (by decide +kernel) ha n3 n1 h3 h4) fun σ H Q h => tEv_call (g := bltD m .int) (fun _ _ _ h => h) h
  | strI => exact pe_weak (pe_callTy (bt_strI m) h1 h2 (by decide +kernel) ha n3 n1 h3 h4) fun σ H Q h => tEv_call (g := bltD m .strI) (fun _ _ _ h => h) h
  | any => exact pe_weak (pe_callB (bt_any hC.calm m) h1 h2 (by decide +kernel) ha n3 n1 h3 h4) fun σ H Q h => tEv_call (g := bltD m .any) (fun _ _ _ h => h) h
  | _ => cases hb
/-! ### isinstance of an error, a display of two texts -/
def tCs (vs : List V) : TA := fun _ H Q => Q vs H
theorem bootVE : bootBuiltins "ValueError" = some (.type "ValueError") := by decide +kernel
/-- the class that a name stands for -/
def ClsN (X : Cx) (y : Str) (v : V) (u : Value) : Prop := ClsV v u ∧ ((∃ C, ErrC X.K X.mg y C ∧ v = .ref C ∧ u = .ref C ∧ y ∈ T.cl) ∨ (y = ("ValueError" : Str) ∧ v = .ty "ValueError" ∧ u = .type "ValueError"))
theorem cls_pe (hC : Vok T N sc X) {y : Str} {p : Pos} (h : chkC T sc y = true) : ∃ v u, ClsN (T := T) X y v u ∧ PE X (.Name y p) (tC v) := by
  unfold chkC at h
  simp only [Bool.and_eq_true, Bool.or_eq_true, decide_eq_true_eq] at h
  obtain ⟨⟨h1, h2⟩, h3⟩ := h
  obtain ⟨n1, n2, n3⟩ := okN_1 h2
  rcases h3 with h3 | ⟨h3, h4⟩
  · obtain ⟨C, hE⟩ := hC.cls y (by simpa using h3)
    exact ⟨.ref C, .ref C, ⟨.own C, .inl ⟨C, hE, rfl, rfl, by simpa using h3⟩⟩, pe_glob (hC.glb y h1) hE.mg rfl n1⟩
  · exact ⟨.ty "ValueError", .type "ValueError", ⟨.ty _, .inr ⟨h3, rfl, rfl⟩⟩, pe_bltn (hC.glb y h1) (hC.blt y (by simpa using h4)) (by rw [h3]; exact bootVE) rfl n3 n1⟩
theorem subC_ve {c : Str} {v : Bool} (h : subC c "ValueError" = some v) : v = true := by
  unfold subC at h
  split at h
  · split at h
    · cases h; rfl
    · split at h
      · cases h; rfl
      · rename_i q
        exact absurd (.inr rfl) q
  · cases h
theorem ClsN.kit {y : Str} {v : V} {u : Value} (h : ClsN (T := T) X y v u) {c : Str} {C : Addr} (R : RaiC T X.K X.mg c C) {b : Bool} (hb : subC c y = some b) : PySem.W.kitOne X.K (.ref C) u = some b := by
  rcases h.2 with ⟨D, hD, rfl, rfl, hy⟩ | ⟨rfl, rfl, rfl⟩
  · exact (R.own y hy D hD.ns b hb).1
  · rw [subC_ve hb]
    exact R.ve
theorem clss_pa (hC : Vok T N sc X) : ∀ {cs : List Str} {es : List Expr}, chkCs T sc cs es = true → ∃ vs us, PA X es (tCs vs) ∧ Paired ClsV vs us ∧ vs.length = es.length ∧ (∀ e ∈ es, notStar e = true) ∧ (∀ {c : Str} {C : Addr}, RaiC T X.K X.mg c C → ∀ b, subCs c cs = some b → PySem.W.kitAny X.K (.ref C) us = some b) ∧ (∀ c, cs = [c] → ∃ v u, vs = [v] ∧ ClsN (T := T) X c v u)
  | [], [], _ => ⟨[], [], pa_nil, .nil, rfl, (fun _ h => nomatch h), (fun {_ _} _ b h => by cases h; rfl), (fun c h => nomatch h)⟩
  | [], _ :: _, h => by simp [chkCs] at h
  | c :: cs, [], h => by simp [chkCs] at h
  | c :: cs, e :: es, h => by
    cases e with
    | Name y p =>
      simp only [chkCs, Bool.and_eq_true, decide_eq_true_eq] at h
      obtain ⟨⟨rfl, h2⟩, h3⟩ := h
      obtain ⟨vs, us, g1, g2, g3, g4, g5, _⟩ := clss_pa hC h3
      obtain ⟨v, u, k1, k2⟩ := cls_pe hC (p := p) h2
      refine ⟨v :: vs, u :: us, pa_cons k2 g1 rfl, .cons k1.1 g2, by simp [g3], fun z hz => ?_, fun {d D} R b hb => ?_, fun d hd => ?_⟩
      · rcases List.mem_cons.mp hz with rfl | hz
        · rfl
        · exact g4 z hz
      · simp only [subCs] at hb
        obtain ⟨b1, e1, e2⟩ := Option.bind_eq_some_iff.mp hb
        obtain ⟨b2, e3, rfl⟩ := Option.map_eq_some_iff.mp e2
        have q := g5 R b2 e3
        have q1 := k1.kit R e1
        show (match PySem.W.kitOne X.K (.ref D) u with
          | some true => some true
          | some false => PySem.W.kitAny X.K (.ref D) us
          | none => none) = _
        rw [q1]
        cases b1 with
        | true => rfl
        | false => exact q
      · simp only [List.cons.injEq] at hd
        obtain ⟨rfl, rfl⟩ := hd
        cases es with
        | nil =>
          have : vs = [] := List.eq_nil_of_length_eq_zero (by simpa using g3)
          exact ⟨v, u, by rw [this], k1⟩
        | cons _ _ => simp [chkCs] at h3
    | _ => simp [chkCs] at h
theorem se_isx {x : Str} {a t : Expr} {p pos : Pos} {fa : Env → Store → R (D × Store)} {rs cs : List Str} {tup : Bool} (hC : Vok T N sc X) (hx : x = ("isinstance" : Str)) (hg : gloC sc x = true) (hm : x ∈ T.bl) (hs : notStar a = true) (ha : PE X a (tEv X.kw fa)) (hrs : ∀ r ∈ rs, r ∈ T.rs)
    (ht : (match tup, t with
        | false, .Name y p => chkCs T sc cs [.Name y p]
        | true, .Tuple es _ _ => chkCs T sc cs es && decide (es.length ≤ 1000)
        | _, _ => false) = true) : PE X (.Call (.Name x p) [a, t] [] pos) (tEv X.kw fun rho S => (fa rho S).bind fun p => match p.1 with
    | .exc c => if c ∈ rs then (match subCs c cs with
      | some b => .ok (.bl b, p.2)
      | none => .bad) else .bad
    | _ => .bad) := by
  have h1 := hC.glb x hg
  have h2 := hC.blt x hm
  subst hx
  -- the class, the classes
  obtain ⟨tt, hT, hst, hread⟩ : ∃ tt : TE, PE X t tt ∧ notStar t = true ∧ ∀ (σ : L2.St) (H : Hp) (Q : VK), (∀ w H1, (∀ a o, H a = some o → H1 a = some o) → (∀ {al : Nat → Addr} {U : List Addr} {S : Store}, SR X.kw al U S H → SR X.kw al U S H1 ∧ Nxt al S.length H al S.length H1) →
      (∀ {c : Str} {C : Addr}, RaiC T X.K X.mg c C → ∀ b, subCs c cs = some b → (∃ u, ClsV w u ∧ PySem.W.kitOne X.K (.ref C) u = some b) ∨ ∃ tp vs us, w = .ref tp ∧ H1 tp = some (.tup vs) ∧ Paired ClsV vs us ∧ PySem.W.kitAny X.K (.ref C) us = some b) → Q w H1) → tt σ H Q := by
    split at ht
    · obtain ⟨vs, us, g1, g2, g3, g4, g5, g6⟩ := clss_pa hC ht
      cases cs with
      | nil => simp [chkCs] at ht
      | cons c cs =>
        cases cs with
        | nil =>
          obtain ⟨v, u, rfl, k1⟩ := g6 c rfl
          simp only [chkCs, Bool.and_eq_true, decide_eq_true_eq] at ht
          obtain ⟨⟨rfl, h3⟩, _⟩ := ht
          obtain ⟨v2, u2, k2, k3⟩ := cls_pe hC (p := by assumption) h3
          refine ⟨_, k3, rfl, fun σ H Q q => q v2 H (fun _ _ e => e) (fun sr => ⟨sr, .refl⟩) fun R b hb => .inl ⟨u2, k2.1, k2.kit R ?_⟩⟩
          simp only [subCs] at hb
          obtain ⟨b1, e1, e2⟩ := Option.bind_eq_some_iff.mp hb
          simp at e2
          rw [e1, e2]
        | cons _ _ => simp [chkCs] at ht
    · rw [Bool.and_eq_true, decide_eq_true_eq] at ht
      obtain ⟨vs, us, g1, g2, g3, g4, g5, g6⟩ := clss_pa hC ht.1
      refine ⟨_, pe_tup g1, rfl, fun σ H Q q => ⟨by rw [g3]; exact len1000 ht.2, fun tp htp => q _ _ (fun a o e => by rw [upd_ne (ne_of_none e htp)]; exact e) (fun sr => ?_) fun R b hb => .inr ⟨tp, vs, us, rfl, upd_same, g2, g5 R b hb⟩⟩⟩
      obtain ⟨n1, s1⟩ := sr.lay htp (.tup vs)
      exact ⟨s1, n1⟩
    · cases ht
  refine pe_weak (pe_callB (call_isV (X := X)) h1 h2 (by decide +kernel) (pa_cons ha (pa_cons hT pa_nil (star_of hst)) (star_of hs)) (by decide +kernel) (by decide +kernel) (star_of hs) (by rw [star_of hst]; rfl)) fun σ H Q h => ?_
  obtain ⟨al, U, S, rho, d, S', sr, er, e, q⟩ := h
  obtain ⟨⟨d1, S1⟩, e1, e⟩ := R.bind_ok e
  refine ⟨al, U, S, rho, d1, S1, sr, er, e1, fun v H1 al1 n1 sr1 r1 => ?_⟩
  simp only at e
  split at e
  · rename_i c
    split at e
    · rename_i hc
      split at e
      · rename_i b hb
        cases e
        simp only [Rep] at r1
        obtain ⟨a0, rfl, C, e1', e2', off⟩ := r1
        obtain ⟨C', R⟩ := hC.rai c (hrs c hc)
        have eC : C' = C := by
          have := R.ns.symm.trans e1'
          cases this
          rfl
        subst eC
        refine hread σ H1 _ fun w H2 hk hsr hw => ?_
        obtain ⟨s2, n2⟩ := hsr sr1
        refine ⟨a0, C', w, b, rfl, hk _ _ e2', R.e, ?_, q _ _ _ (sr1.trans n1 n2) s2 (by simp only [Rep])⟩
        exact hw R b hb
      · cases e
    · cases e
  · cases e
theorem se_dct2 {a c b d : List Char} {ka kc kb kd : Nat} {pa pc pb pd pos : Pos} {xa xc xb xd : Const} (hac : a ≠ c) (ha : chkD (.str a) xa = true) (hc : chkD (.str c) xc = true) (hb : chkD (.str b) xb = true) (hd : chkD (.str d) xd = true) :
    PE X (.Dict [some (.Constant xa ka pa), some (.Constant xc kc pc)] [.Constant xb kb pb, .Constant xd kd pd] pos) (tEv X.kw fun _ S => .ok (.ref S.length, S ++ [.dct [.str a, .str c] [.str b, .str d]])) := by
  have cs : ∀ {s : List Char} {x : Const}, chkD (.str s) x = true → x = .str (toS s) ∧ s.length ≤ sizeLine := by
    intro s x h
    cases x <;> first | cases h | skip
    simp only [chkD, Bool.and_eq_true, decide_eq_true_eq] at h
    have hz : sizeLine = 16777216 := by decide
    exact ⟨by rw [h.1], by omega⟩
  obtain ⟨rfl, la⟩ := cs ha
  obtain ⟨rfl, lc⟩ := cs hc
  obtain ⟨rfl, lb⟩ := cs hb
  obtain ⟨rfl, ld⟩ := cs hd
  refine pe_weak (pe_disp (pps_cons pe_str pe_str (pps_cons pe_str pe_str pps_nil)) rfl rfl (by simp) (by simp)) fun σ H Q ⟨al, U, S, rho, dd, S', sr, er, e, q⟩ => ?_
  cases e
  intro p hp
  have hne : toS a ≠ toS c := fun z => hac (by
    have : (a.map Char.toNat).toArray = (c.map Char.toNat).toArray := by injection z
    have := congrArg Array.toList this
    simp only [List.toList_toArray] at this
    exact (List.map_inj_right fun x y h => Char.toNat_inj.mp h).mp this)
  refine ⟨upd_same, [(.inr (toS a), .str (toS b)), (.inr (toS c), .str (toS d))], rfl, by simp, ?_⟩
  have em : mergeK [] [((.inr (toS a) : Key), V.str (toS b)), (.inr (toS c), V.str (toS d))] = [(.inr (toS a), .str (toS b)), (.inr (toS c), .str (toS d))] := by
    simp [mergeK, L2.putK, hne]
  rw [em, show upd (upd H p (.dK [])) p (HO.dK [((.inr (toS a) : Key), V.str (toS b)), (.inr (toS c), V.str (toS d))]) = upd H p (HO.dK [((.inr (toS a) : Key), V.str (toS b)), (.inr (toS c), V.str (toS d))]) from funext fun y => by unfold upd; split <;> rfl]
  obtain ⟨n1, s1, e1⟩ := sr.make (ho := .dK [((.inr (toS a) : Key), V.str (toS b)), (.inr (toS c), V.str (toS d))]) (o := .dct [.str a, .str c] [.str b, .str d]) hp (fun g => ⟨_, upd_same, (show 2 ≤ sizeLine by decide), rfl, by simp [Reps, Rep, lb, ld], by simp [hne], fun s h => by
    simp only [List.mem_cons, D.str.injEq, List.not_mem_nil, or_false] at h
    rcases h with rfl | rfl
    · exact la
    · exact lc⟩)
  refine q _ _ _ n1 s1 ?_
  simp only [Rep]
  exact ⟨by simp, by rw [e1]⟩
theorem boot_tyN (t : Ty) (ht : t ≠ .non) : bootBuiltins (tyN' t) = some (.type (tyN t)) := by
  cases t <;> first | exact absurd rfl ht | decide +kernel
theorem se_isi {t : Ty} {m : Bool} {x y : Str} {a : Expr} {p p2 pos : Pos} {fa : Env → Store → R (D × Store)} (hC : Cok P T k N sc X) (ht : t ≠ .non) (hx : x = ("isinstance" : Str)) (hg : gloC sc x = true) (hm : x ∈ T.bl) (hy : y = tyN' t) (hgy : gloC sc y = true) (hmy : y ∈ T.bl) (hny : okN y = true)
    (ha : PE X a (tEv X.kw fa)) (hs : notStar a = true) : PE X (.Call (.Name x p) [a, .Name y p2] [] pos) (tEv X.kw fun rho S => (fa rho S).bind fun p => bltD m (.isTy t) [p.1] p.2) := by
  have h1 := hC.glb x hg
  have h2 := hC.blt x hm
  obtain ⟨n1, n2, n3⟩ := okN_1 hny
  have hty : PE X (.Name y p2) (tC (.ty (tyN t))) := pe_bltn (hC.glb y hgy) (hC.blt y hmy) (by rw [hy]; exact boot_tyN t ht) rfl n3 n1
  have hts : PA X [.Name y p2] (tCons (tC (.ty (tyN t))) tNil) := pa_cons hty pa_nil rfl
  subst hx
  refine pe_weak (pe_callB (bt_isTy t ht m) h1 h2 (by decide +kernel) (pa_cons ha hts (star_of hs)) (by decide +kernel) (by decide +kernel) (star_of hs) rfl) fun σ H Q h => ?_
  obtain ⟨al, U, S, rho, d, S', sr, er, e, q⟩ := h
  obtain ⟨⟨d1, S1⟩, e1, e⟩ := R.bind_ok e
  exact ⟨al, U, S, rho, d1, S1, sr, er, e1, fun v H1 al1 n1 sr1 r1 => ⟨v, rfl, al1, U, S1, [d1], d, S', sr1, by simp only [Reps]; exact ⟨v, [], rfl, r1, rfl⟩, e, fun v2 H2 al2 n2 sr2 r2 => q v2 H2 al2 (sr1.trans n1 n2) sr2 r2⟩⟩
theorem rgV_rep {K : KW} {al : Nat → Addr} {n : Nat} {U : List Addr} {H : Hp} : ∀ (m : Nat) (lo : Int), Reps K al n U H (rangeD lo m) ((List.range m).map fun i => V.int (lo + (i : Nat)))
  | 0, lo => by simp [rangeD, Reps]
  | m + 1, lo => by
    have ih := rgV_rep (K := K) (al := al) (n := n) (U := U) (H := H) m (lo + 1)
    rw [rangeD, List.range_succ_eq_map, List.map_cons, List.map_map]
    simp only [Reps, Rep]
    refine ⟨_, _, rfl, by simp, ?_⟩
    have e : (List.range m).map ((fun i => V.int (lo + (i : Nat))) ∘ Nat.succ) = (List.range m).map fun i => V.int (lo + 1 + (i : Nat)) := by
      apply List.map_congr_left
      intro i _
      show V.int _ = V.int _
      congr 1
      simp
      omega
    rw [e]
    exact ih
/-- list(range(n)) -/
theorem se_lrg {m : Bool} {x y : Str} {a : Expr} {p p2 pos pos2 : Pos} {fa : Env → Store → R (D × Store)} (hC : Cok P T k N sc X) (hx : x = ("list" : Str)) (hg : gloC sc x = true) (hm : x ∈ T.bl) (hn : okN x = true) (hy : y = ("range" : Str)) (hgy : gloC sc y = true) (hmy : y ∈ T.bl)
    (ha : PE X a (tEv X.kw fa)) (hs : notStar a = true) : PE X (.Call (.Name x p) [.Call (.Name y p2) [a] [] pos2] [] pos) (tEv X.kw fun rho S => (fa rho S).bind fun p => bltD m .listRg [p.1] p.2) := by
  have h1 := hC.glb x hg
  have h2 := hC.blt x hm
  have h3 := hC.glb y hgy
  have h4 := hC.blt y hmy
  subst hx hy
  refine pe_weak (pe_listRg hC.calm h1 h2 (prg_1 h3 h4 ha (star_of hs)) (star_of rfl)) fun σ H Q ⟨al, U, S, rho, d, S', sr, er, e, q⟩ => ?_
  obtain ⟨⟨d1, S1⟩, e1, e⟩ := R.bind_ok e
  have e2 : lrgD m [d1] S1 = .ok (d, S') := e
  clear e
  unfold lrgD at e2
  split at e2 <;> try (cases e2; done)
  rename_i j hj
  cases hj
  split at e2
  · rename_i hz
    refine ⟨al, U, S, rho, .int j, S1, sr, er, e1, fun v1 H1 al1 n1 sr1 r1 => ?_⟩
    simp only [Rep] at r1
    have hl : sizeLine = 16777216 := by decide
    have ln : (rangeD 0 j.toNat).length = j.toNat := rangeD_length _ _
    have r := rgV_rep (K := X.kw) (al := al1) (n := S1.length) (U := U) (H := H1) j.toNat 0
    have e3 : (rgV 0 j) = (List.range j.toNat).map fun i => V.int (0 + (i : Nat)) := by
      unfold rgV
      rw [Int.sub_zero]
    refine ⟨j, r1, RgOk.of_le (by omega) (by omega) (by omega) (by omega), ?_⟩
    rw [e3]
    exact new_lit sr1 e2 (by rw [ln]; omega) r fun v2 H2 al2 n2 sr2 r2 => q v2 H2 al2 (sr1.trans n1 n2) sr2 r2
  · cases e2
theorem pe_tupRgF {e : Expr} {te : L2.St → Hp → (Int → Int → Hp → Prop) → Prop} {p pos : Pos} (hc : X.calm = true) (hg : Gl X "tuple") (hm : X.mg "tuple" = none) (he : PRg X e te) (na : starEach [e] X.env = (false, eval e X.env) :: starEach [] X.env) : PE X (.Call (.Name "tuple" p) [e] [] pos) (fun σ H Q => te σ H fun a b H1 => RgOk a b ∧ NewT H1 (rgV a b) Q) := by
  refine ⟨fun pins s σ H Q I h => ?_⟩
  refine Call_ (ld_blt I hg hm boot_tuple (PyProof.Rows.callWith_type1 (args_cons (thn (he pins s σ H _ I h) fun x s1 ⟨r, a, b, t, u, v, H1, ex, hr, I1, ok, q⟩ => args_nil ?_) na) na))
  subst ex
  obtain ⟨b1, b2, b3, b4, b5⟩ := ok
  refine call_tuple_range (n := (b - a).toNat) (I1.ok.hd hc) hr (small_one b1 b2 b3 b4) (rangeSize_nat a b) b5 fun h' tk acc hk hi => ?_
  have I2 : Inv X pins σ H1 { s1 with heap := h', toks := tk } := I1.kept hk
  exact lay_tup I2 (vals_rg hi) (by rw [rgV_length, sizeLine_eq]; omega) q
/-- tuple(range(n)) -/
theorem se_trg {m : Bool} {x y : Str} {a : Expr} {p p2 pos pos2 : Pos} {fa : Env → Store → R (D × Store)} (hC : Cok P T k N sc X) (hx : x = ("tuple" : Str)) (hg : gloC sc x = true) (hm : x ∈ T.bl) (hn : okN x = true) (hy : y = ("range" : Str)) (hgy : gloC sc y = true) (hmy : y ∈ T.bl)
    (ha : PE X a (tEv X.kw fa)) (hs : notStar a = true) : PE X (.Call (.Name x p) [.Call (.Name y p2) [a] [] pos2] [] pos) (tEv X.kw fun rho S => (fa rho S).bind fun p => bltD m .tupRg [p.1] p.2) := by
  have h1 := hC.glb x hg
  have h2 := hC.blt x hm
  have h3 := hC.glb y hgy
  have h4 := hC.blt y hmy
  subst hx hy
  refine pe_weak (pe_tupRgF hC.calm h1 h2 (prg_1 h3 h4 ha (star_of hs)) (star_of rfl)) fun σ H Q ⟨al, U, S, rho, d, S', sr, er, e, q⟩ => ?_
  obtain ⟨⟨d1, S1⟩, e1, e⟩ := R.bind_ok e
  have e2 : trgD [d1] S1 = .ok (d, S') := e
  clear e
  unfold trgD at e2
  split at e2 <;> try (cases e2; done)
  rename_i j hj
  cases hj
  split at e2
  · rename_i hz
    cases e2
    refine ⟨al, U, S, rho, .int j, S', sr, er, e1, fun v1 H1 al1 n1 sr1 r1 => ?_⟩
    simp only [Rep] at r1
    have hl : sizeLine = 16777216 := by decide
    have ln : (rangeD 0 j.toNat).length = j.toNat := rangeD_length _ _
    have r := rgV_rep (K := X.kw) (al := al1) (n := S'.length) (U := U) (H := H1) j.toNat 0
    have e3 : (rgV 0 j) = (List.range j.toNat).map fun i => V.int (0 + (i : Nat)) := by
      unfold rgV
      rw [Int.sub_zero]
    refine ⟨j, r1, RgOk.of_le (by omega) (by omega) (by omega) (by omega), ?_⟩
    rw [e3]
    exact new_tup sr1 (by rw [ln]; omega) r fun v2 H2 al2 n2 sr2 r2 => q v2 H2 al2 (sr1.trans n1 n2) sr2 r2
  · cases e2
/-- the plain methods -/
theorem se_mt {t : Mt} {name : Str} {o a : Expr} {es : List Expr} {apos cpos : Pos} {fo : Env → Store → R (D × Store)} {fs : Env → Store → R (List D × Store)} (hC : Cok P T k N sc X) (ht : mtPlain t = true) (hname : name = mtName t) (hb : notCall0 o = true) (hl : (apos.endLine == cpos.line) = true) (hlen : es.length < 20)
    (ho : PE X o (tEv X.kw fo)) (ha : PA X (a :: es) (tEvs X.kw fs)) (hs : ∀ z ∈ a :: es, notStar z = true) : PE X (.Call (.Attribute o name apos) (a :: es) [] cpos) (tEv X.kw fun rho S => (fo rho S).bind fun p => if recvOk t p.1 p.2 then (fs rho p.2).bind fun q => mthD t p.1 q.1 q.2 else .bad) := by
  have h3 : starEach (a :: es) X.env = (false, eval a X.env) :: starEach es X.env := star_of (hs a List.mem_cons_self)
  have h4 : (backTo cpos (starEach es X.env)).any (·.1) = false := backTo_of es X.env fun z hz => hs z (List.mem_cons_of_mem _ hz)
  have h5 : ((backTo cpos (starEach (a :: es) X.env)).all (fun x => !x.1) && (backToKw cpos (keywordEach [] X.env)).all (fun x => x.1.isSome)
      && decide ((a :: es).length + ([] : List Keyword).length + (if ([] : List Keyword).isEmpty then 0 else 1) < 30)) = true := by
    have e1 : (backTo cpos (starEach (a :: es) X.env)).all (fun x => !x.1) = true := by
      have := backTo_of (pos := cpos) (a :: es) X.env hs
      rw [List.any_eq_false] at this
      rw [List.all_eq_true]
      intro x hx
      have := this x hx
      simpa using this
    have e2 : decide ((a :: es).length + ([] : List Keyword).length + (if ([] : List Keyword).isEmpty then 0 else 1) < 30) = true := by
      rw [decide_eq_true_eq]
      simp
      omega
    rw [e1, e2]
    rfl
  subst hname
  cases t with
  | append =>
    refine pe_weak (pe_bm PySem.F.plainAttrs_list PySem.F.slot_list_append PySem.F.type_list_append mt_app ho ha (base_of hb) h5 hl h3 h4) fun σ H Q ⟨al, U, S, rho, d, S', sr, er, e, q⟩ => ?_
    obtain ⟨⟨d1, S1⟩, e1, e⟩ := R.bind_ok e
    refine ⟨al, U, S, rho, d1, S1, sr, er, e1, fun v1 H1 al1 n1 sr1 r1 => ?_⟩
    split at e
    · rename_i hr
      obtain ⟨⟨d2, S2⟩, e2, e⟩ := R.bind_ok e
      refine ⟨?_, al1, U, S1, rho, d2, S2, sr1, er.nxt n1, e2, fun vs H2 al2 n2 sr2 r2 => ⟨al2, U, S2, d1, d2, d, S', sr2, Rep.nxt n2 _ _ r1, r2, e, fun v3 H3 al3 n3 sr3 r3 => q v3 H3 al3 (sr1.trans n1 (sr2.trans n2 n3)) sr3 r3⟩⟩
      cases d1 with
      | ref m =>
        unfold recvOk at hr
        simp only at hr
        split at hr
        · rename_i ds eo
          obtain ⟨vs, h1, _⟩ := sr1.obj m _ eo
          simp only [Rep] at r1
          rw [r1.2]
          exact .inl ⟨rfl, vs, SqL.of h1⟩
        · cases hr
      | _ => cases hr
    · cases e
  | extend =>
    refine pe_weak (pe_bm PySem.F.plainAttrs_list PySem.F.slot_list_extend PySem.F.type_list_extend mt_ext ho ha (base_of hb) h5 hl h3 h4) fun σ H Q ⟨al, U, S, rho, d, S', sr, er, e, q⟩ => ?_
    obtain ⟨⟨d1, S1⟩, e1, e⟩ := R.bind_ok e
    refine ⟨al, U, S, rho, d1, S1, sr, er, e1, fun v1 H1 al1 n1 sr1 r1 => ?_⟩
    split at e
    · rename_i hr
      obtain ⟨⟨d2, S2⟩, e2, e⟩ := R.bind_ok e
      refine ⟨?_, al1, U, S1, rho, d2, S2, sr1, er.nxt n1, e2, fun vs H2 al2 n2 sr2 r2 => ⟨al2, U, S2, d1, d2, d, S', sr2, Rep.nxt n2 _ _ r1, r2, e, fun v3 H3 al3 n3 sr3 r3 => q v3 H3 al3 (sr1.trans n1 (sr2.trans n2 n3)) sr3 r3⟩⟩
      cases d1 with
      | ref m =>
        unfold recvOk at hr
        simp only at hr
        split at hr
        · rename_i ds eo
          obtain ⟨vs, h1, _⟩ := sr1.obj m _ eo
          simp only [Rep] at r1
          rw [r1.2]
          exact .inl ⟨rfl, vs, SqL.of h1⟩
        · cases hr
      | _ => cases hr
    · cases e
  | index =>
    refine pe_weak (pe_bm PySem.F.plainAttrs_str PySem.F.slot_str_index PySem.F.type_str_index mt_idx ho ha (base_of hb) h5 hl h3 h4) fun σ H Q ⟨al, U, S, rho, d, S', sr, er, e, q⟩ => ?_
    obtain ⟨⟨d1, S1⟩, e1, e⟩ := R.bind_ok e
    refine ⟨al, U, S, rho, d1, S1, sr, er, e1, fun v1 H1 al1 n1 sr1 r1 => ?_⟩
    split at e
    · rename_i hr
      obtain ⟨⟨d2, S2⟩, e2, e⟩ := R.bind_ok e
      refine ⟨?_, al1, U, S1, rho, d2, S2, sr1, er.nxt n1, e2, fun vs H2 al2 n2 sr2 r2 => ⟨al2, U, S2, d1, d2, d, S', sr2, Rep.nxt n2 _ _ r1, r2, e, fun v3 H3 al3 n3 sr3 r3 => q v3 H3 al3 (sr1.trans n1 (sr2.trans n2 n3)) sr3 r3⟩⟩
      cases d1 with
      | str z =>
        simp only [Rep] at r1
        rw [r1.1]
        exact rfl
      | _ => cases hr
    · cases e
  | indexT =>
    refine pe_weak (pe_bmP (rT := fun x H => ∃ p xs, x = .ref p ∧ TupP X.kw H p xs) PySem.F.plainAttrs_tuple PySem.F.slot_tuple_index PySem.F.type_tuple_index mt_idxT (fun {pins s σ H x v} I rx hx => by
      obtain ⟨p, xs, ex, hp⟩ := hx
      subst ex
      cases rx
      obtain ⟨its, _, ⟨ob, n, g1, g2, g3, g4⟩, _⟩ := plain_seq I hp
      refine ⟨⟨ob, g1, g2⟩, fun a ea => ?_⟩
      cases ea
      exact ⟨ob, g1, g3⟩) ho ha (base_of hb) h5 hl h3 h4) fun σ H Q ⟨al, U, S, rho, d, S', sr, er, e, q⟩ => ?_
    obtain ⟨⟨d1, S1⟩, e1, e⟩ := R.bind_ok e
    refine ⟨al, U, S, rho, d1, S1, sr, er, e1, fun v1 H1 al1 n1 sr1 r1 => ?_⟩
    split at e
    · rename_i hr
      obtain ⟨⟨d2, S2⟩, e2, e⟩ := R.bind_ok e
      refine ⟨?_, al1, U, S1, rho, d2, S2, sr1, er.nxt n1, e2, fun vs H2 al2 n2 sr2 r2 => ⟨al2, U, S2, d1, d2, d, S', sr2, Rep.nxt n2 _ _ r1, r2, e, fun v3 H3 al3 n3 sr3 r3 => q v3 H3 al3 (sr1.trans n1 (sr2.trans n2 n3)) sr3 r3⟩⟩
      cases d1 with
      | tup z =>
        simp only [Rep] at r1
        obtain ⟨p, vs, ev, t, _⟩ := r1
        exact ⟨p, vs, ev, t.plain⟩
      | _ => cases hr
    · cases e
  | get2 =>
    refine pe_weak (pe_bmP (rT := fun x H => ∃ p, x = .ref p ∧ (IsD H p ∨ ∃ xs, H p = some (.ext (ndP X.w p xs)))) PySem.F.plainAttrs_dict PySem.F.slot_dict_get PySem.F.type_dict_get (mt_get2 (hu64 hC)) (fun {pins s σ H x v} I rx hx => by
      obtain ⟨p, ex, hp⟩ := hx
      subst ex
      cases rx
      rcases hp with hp | ⟨xs, hp⟩
      · obtain ⟨t1, t2, _⟩ := isD_at I hp
        exact ⟨t1, t2⟩
      · obtain ⟨t1, t2⟩ := nd_type I hp
        exact ⟨t1, fun a ea => by cases ea; exact t2⟩) ho ha (base_of hb) h5 hl h3 h4) fun σ H Q ⟨al, U, S, rho, d, S', sr, er, e, q⟩ => ?_
    obtain ⟨⟨d1, S1⟩, e1, e⟩ := R.bind_ok e
    refine ⟨al, U, S, rho, d1, S1, sr, er, e1, fun v1 H1 al1 n1 sr1 r1 => ?_⟩
    split at e
    · rename_i hr
      obtain ⟨⟨d2, S2⟩, e2, e⟩ := R.bind_ok e
      refine ⟨?_, al1, U, S1, rho, d2, S2, sr1, er.nxt n1, e2, fun vs H2 al2 n2 sr2 r2 => ⟨al2, U, S2, d1, d2, d, S', sr2, Rep.nxt n2 _ _ r1, r2, e, fun v3 H3 al3 n3 sr3 r3 => q v3 H3 al3 (sr1.trans n1 (sr2.trans n2 n3)) sr3 r3⟩⟩
      cases d1 with
      | ref m =>
        simp only [Rep] at r1
        unfold recvOk at hr
        simp only at hr
        split at hr
        · rename_i ks vs eo
          obtain ⟨kvs, g1, _⟩ := sr1.obj m _ eo
          exact ⟨_, r1.2, .inl (.inl ⟨kvs, .inl g1⟩)⟩
        · rename_i ks vs eo
          obtain ⟨xs, _, _, g1, _⟩ := sr1.obj m _ eo
          exact ⟨_, r1.2, .inr ⟨xs, g1⟩⟩
        · cases hr
      | _ => cases hr
    · cases e
  | indexL =>
    refine pe_weak (pe_bm PySem.F.plainAttrs_list PySem.F.slot_list_index PySem.F.type_list_index mt_idxL ho ha (base_of hb) h5 hl h3 h4) fun σ H Q ⟨al, U, S, rho, d, S', sr, er, e, q⟩ => ?_
    obtain ⟨⟨d1, S1⟩, e1, e⟩ := R.bind_ok e
    refine ⟨al, U, S, rho, d1, S1, sr, er, e1, fun v1 H1 al1 n1 sr1 r1 => ?_⟩
    split at e
    · rename_i hr
      obtain ⟨⟨d2, S2⟩, e2, e⟩ := R.bind_ok e
      refine ⟨?_, al1, U, S1, rho, d2, S2, sr1, er.nxt n1, e2, fun vs H2 al2 n2 sr2 r2 => ⟨al2, U, S2, d1, d2, d, S', sr2, Rep.nxt n2 _ _ r1, r2, e, fun v3 H3 al3 n3 sr3 r3 => q v3 H3 al3 (sr1.trans n1 (sr2.trans n2 n3)) sr3 r3⟩⟩
      cases d1 with
      | ref m =>
        unfold recvOk at hr
        simp only at hr
        split at hr
        · rename_i ds eo
          obtain ⟨vs, h1, _⟩ := sr1.obj m _ eo
          simp only [Rep] at r1
          rw [r1.2]
          exact .inl ⟨rfl, vs, SqL.of h1⟩
        · cases hr
      | lst zs =>
        simp only [Rep] at r1
        obtain ⟨p, vs, rfl, t, l, r⟩ := r1
        exact .inl ⟨rfl, vs, t.sq⟩
      | _ => cases hr
    · cases e
  | popI =>
    refine pe_weak (pe_bm PySem.F.plainAttrs_list PySem.F.slot_list_pop PySem.F.type_list_pop mt_popI ho ha (base_of hb) h5 hl h3 h4) fun σ H Q ⟨al, U, S, rho, d, S', sr, er, e, q⟩ => ?_
    obtain ⟨⟨d1, S1⟩, e1, e⟩ := R.bind_ok e
    refine ⟨al, U, S, rho, d1, S1, sr, er, e1, fun v1 H1 al1 n1 sr1 r1 => ?_⟩
    split at e
    · rename_i hr
      obtain ⟨⟨d2, S2⟩, e2, e⟩ := R.bind_ok e
      refine ⟨?_, al1, U, S1, rho, d2, S2, sr1, er.nxt n1, e2, fun vs H2 al2 n2 sr2 r2 => ⟨al2, U, S2, d1, d2, d, S', sr2, Rep.nxt n2 _ _ r1, r2, e, fun v3 H3 al3 n3 sr3 r3 => q v3 H3 al3 (sr1.trans n1 (sr2.trans n2 n3)) sr3 r3⟩⟩
      cases d1 with
      | ref m =>
        unfold recvOk at hr
        simp only at hr
        split at hr
        · rename_i ds eo
          obtain ⟨vs, h1, _⟩ := sr1.obj m _ eo
          simp only [Rep] at r1
          rw [r1.2]
          exact .inl ⟨rfl, vs, SqL.of h1⟩
        · cases hr
      | _ => cases hr
    · cases e
  | insert =>
    refine pe_weak (pe_bm PySem.F.plainAttrs_list PySem.F.slot_list_insert PySem.F.type_list_insert mt_ins ho ha (base_of hb) h5 hl h3 h4) fun σ H Q ⟨al, U, S, rho, d, S', sr, er, e, q⟩ => ?_
    obtain ⟨⟨d1, S1⟩, e1, e⟩ := R.bind_ok e
    refine ⟨al, U, S, rho, d1, S1, sr, er, e1, fun v1 H1 al1 n1 sr1 r1 => ?_⟩
    split at e
    · rename_i hr
      obtain ⟨⟨d2, S2⟩, e2, e⟩ := R.bind_ok e
      refine ⟨?_, al1, U, S1, rho, d2, S2, sr1, er.nxt n1, e2, fun vs H2 al2 n2 sr2 r2 => ⟨al2, U, S2, d1, d2, d, S', sr2, Rep.nxt n2 _ _ r1, r2, e, fun v3 H3 al3 n3 sr3 r3 => q v3 H3 al3 (sr1.trans n1 (sr2.trans n2 n3)) sr3 r3⟩⟩
      cases d1 with
      | ref m =>
        unfold recvOk at hr
        simp only at hr
        split at hr
        · rename_i ds eo
          obtain ⟨vs, h1, _⟩ := sr1.obj m _ eo
          simp only [Rep] at r1
          rw [r1.2]
          exact .inl ⟨rfl, vs, SqL.of h1⟩
        · cases hr
      | _ => cases hr
    · cases e
  | setdef =>
    refine pe_weak (pe_bmP (rT := fun x H => ∃ p, x = .ref p ∧ ∃ xs, H p = some (.ext (ndP X.w p xs))) PySem.F.plainAttrs_dict PySem.F.slot_dict_setdefault PySem.F.type_dict_setdefault (mt_sdf (hu64 hC)) (fun {pins s σ H x v} I rx hx => by
      obtain ⟨p, ex, xs, hp⟩ := hx
      subst ex
      cases rx
      obtain ⟨t1, t2⟩ := nd_type I hp
      exact ⟨t1, fun a ea => by cases ea; exact t2⟩) ho ha (base_of hb) h5 hl h3 h4) fun σ H Q ⟨al, U, S, rho, d, S', sr, er, e, q⟩ => ?_
    obtain ⟨⟨d1, S1⟩, e1, e⟩ := R.bind_ok e
    refine ⟨al, U, S, rho, d1, S1, sr, er, e1, fun v1 H1 al1 n1 sr1 r1 => ?_⟩
    split at e
    · rename_i hr
      obtain ⟨⟨d2, S2⟩, e2, e⟩ := R.bind_ok e
      refine ⟨?_, al1, U, S1, rho, d2, S2, sr1, er.nxt n1, e2, fun vs H2 al2 n2 sr2 r2 => ⟨al2, U, S2, d1, d2, d, S', sr2, Rep.nxt n2 _ _ r1, r2, e, fun v3 H3 al3 n3 sr3 r3 => q v3 H3 al3 (sr1.trans n1 (sr2.trans n2 n3)) sr3 r3⟩⟩
      cases d1 with
      | ref m =>
        simp only [Rep] at r1
        unfold recvOk at hr
        simp only at hr
        split at hr
        · rename_i ks vs eo
          obtain ⟨xs, _, _, g1, _⟩ := sr1.obj m _ eo
          exact ⟨_, r1.2, xs, g1⟩
        · cases hr
      | _ => cases hr
    · cases e
  | join =>
    refine pe_weak (pe_bm PySem.F.plainAttrs_str PySem.F.slot_str_join PySem.F.type_str_join mt_joi ho ha (base_of hb) h5 hl h3 h4) fun σ H Q ⟨al, U, S, rho, d, S', sr, er, e, q⟩ => ?_
    obtain ⟨⟨d1, S1⟩, e1, e⟩ := R.bind_ok e
    refine ⟨al, U, S, rho, d1, S1, sr, er, e1, fun v1 H1 al1 n1 sr1 r1 => ?_⟩
    split at e
    · rename_i hr
      obtain ⟨⟨d2, S2⟩, e2, e⟩ := R.bind_ok e
      refine ⟨?_, al1, U, S1, rho, d2, S2, sr1, er.nxt n1, e2, fun vs H2 al2 n2 sr2 r2 => ⟨al2, U, S2, d1, d2, d, S', sr2, Rep.nxt n2 _ _ r1, r2, e, fun v3 H3 al3 n3 sr3 r3 => q v3 H3 al3 (sr1.trans n1 (sr2.trans n2 n3)) sr3 r3⟩⟩
      cases d1 with
      | str z =>
        simp only [Rep] at r1
        rw [r1.1]
        exact rfl
      | _ => cases hr
    · cases e
  | _ => cases ht
theorem se_orv {a b : Expr} {pos : Pos} {fa fb : Env → Store → R (D × Store)} (ha : PE X a (tEv X.kw fa)) (hb : PE X b (tEv X.kw fb)) : PE X (.BoolOp .Or [a, b] pos) (tEv X.kw fun rho S => (fa rho S).bind fun p => match p.1 with
    | .tup (d :: ds) => .ok (.tup (d :: ds), p.2)
    | .tup [] => (fb rho p.2).bind tupOnly
    | .non => (fb rho p.2).bind tupOnly
    | _ => .bad) := by
  refine pe_weak (pe_orT ha (se_one hb)) fun σ H Q ⟨al, U, S, rho, d, S', sr, er, e, q⟩ => ?_
  obtain ⟨⟨d1, S1⟩, e1, e⟩ := R.bind_ok e
  refine ⟨al, U, S, rho, d1, S1, sr, er, e1, fun v1 H1 al1 n1 sr1 r1 => ?_⟩
  have more : (fb rho S1).bind tupOnly = .ok (d, S') → tEv X.kw fb σ H1 Q := fun e => by
    obtain ⟨⟨d2, S2⟩, e2, e⟩ := R.bind_ok e
    have e3 : d2 = d ∧ S2 = S' := by
      unfold tupOnly at e
      simp only at e
      split at e
      · rename_i ds0
        cases e
        exact ⟨rfl, rfl⟩
      · cases e
    obtain ⟨rfl, rfl⟩ := e3
    exact ⟨al1, U, S1, rho, _, _, sr1, er.nxt n1, e2, fun v2 H2 al2 n2 sr2 r2 => q v2 H2 al2 (sr1.trans n1 n2) sr2 r2⟩
  cases d1 with
  | non =>
    simp only [Rep] at r1
    subst r1
    exact ⟨false, rfl, by rw [if_neg Bool.false_ne_true]; exact more e⟩
  | tup ds =>
    have r1' := r1
    simp only [Rep] at r1
    obtain ⟨p, vs, rfl, t, l, r⟩ := r1
    cases ds with
    | nil =>
      simp only [Reps] at r
      subst r
      exact ⟨false, .inr (.inl ⟨_, t.sq, rfl⟩), by rw [if_neg Bool.false_ne_true]; exact more e⟩
    | cons d0 ds =>
      cases e
      simp only [Reps] at r
      obtain ⟨v0, r', rfl, _⟩ := r
      exact ⟨true, .inr (.inl ⟨_, t.sq, rfl⟩), by rw [if_pos rfl]; exact q _ _ _ n1 sr1 r1'⟩
  | _ => cases e
theorem tEvs.of {K : KW} {f g : Env → Store → R (List D × Store)} (h : ∀ rho S, f rho S = g rho S) {σ : L2.St} {H : Hp} {Q : List V → Hp → Prop} (q : tEvs K f σ H Q) : tEvs K g σ H Q := by
  obtain ⟨al, U, S, rho, d, S', sr, er, e, q⟩ := q
  exact ⟨al, U, S, rho, d, S', sr, er, (h rho S).symm.trans e, q⟩
theorem tEvI.of {K : KW} {f g : Env → Store → R (Z.Itr × Store)} (h : ∀ rho S, f rho S = g rho S) {σ : L2.St} {H : Hp} {Q : L2.It → Hp → Prop} (q : tEvI K f σ H Q) : tEvI K g σ H Q := by
  obtain ⟨al, U, S, rho, d, S', sr, er, e, q⟩ := q
  exact ⟨al, U, S, rho, d, S', sr, er, (h rho S).symm.trans e, q⟩
theorem tEvT.of {K : KW} {f g : Env → Store → R (D × Store)} (h : ∀ rho S, f rho S = g rho S) {σ : L2.St} {H : Hp} {Q : Bool → Hp → Prop} (q : tEvT K f σ H Q) : tEvT K g σ H Q := by
  obtain ⟨al, U, S, rho, d, S', sr, er, e, q⟩ := q
  exact ⟨al, U, S, rho, d, S', sr, er, (h rho S).symm.trans e, q⟩
theorem tEvS.of {K : KW} {W : WX} {f g : Env → Store → R (Fl × Env × Store)} (h : ∀ rho S, f rho S = g rho S) {D : Ends} {σ : L2.St} {H : Hp} (q : tEvS K W f D σ H) : tEvS K W g D σ H := by
  obtain ⟨al, U, S, rho, fl, rho', S', sr, er, e, q⟩ := q
  exact ⟨al, U, S, rho, fl, rho', S', sr, er, (h rho S).symm.trans e, q⟩
theorem pe_of {e : Expr} {f g : Env → Store → R (D × Store)} (h : PE X e (tEv X.kw f)) (w : ∀ rho S, g rho S = f rho S) : PE X e (tEv X.kw g) := pe_weak h fun _ _ _ q => tEv.of w q
theorem pt_of {e : Expr} {f g : Env → Store → R (D × Store)} (h : PT X e (tEvT X.kw f)) (w : ∀ rho S, g rho S = f rho S) : PT X e (tEvT X.kw g) := pt_weak h fun _ _ _ q => tEvT.of w q
theorem pw_of {e : Expr} {f g : Env → Store → R (D × Store)} (h : PW X e (tEvT X.kw f)) (w : ∀ rho S, g rho S = f rho S) : PW X e (tEvT X.kw g) := pw_weak h fun _ _ _ q => tEvT.of w q
theorem pa_of {es : List Expr} {f g : Env → Store → R (List D × Store)} (h : PA X es (tEvs X.kw f)) (w : ∀ rho S, g rho S = f rho S) : PA X es (tEvs X.kw g) := pa_weak h fun _ _ _ q => tEvs.of w q
theorem pi_of {tg e : Expr} {f g : Env → Store → R (Z.Itr × Store)} (h : PI X tg e (tEvI X.kw f)) (w : ∀ rho S, g rho S = f rho S) : PI X tg e (tEvI X.kw g) := pi_weak h fun _ _ _ q => tEvI.of w q
theorem ps_of {W : WX} {st : Stmt} {f g : Env → Store → R (Fl × Env × Store)} (h : PS X st (tEvS X.kw W f)) (w : ∀ rho S, g rho S = f rho S) : PS X st (tEvS X.kw W g) := ps_weak h fun _ _ _ q => tEvS.of w q
theorem pss_of {W : WX} {st : List Stmt} {f g : Env → Store → R (Fl × Env × Store)} (h : PSs X st (tEvS X.kw W f)) (w : ∀ rho S, g rho S = f rho S) : PSs X st (tEvS X.kw W g) := pss_weak h fun _ _ _ q => tEvS.of w q
end
end Z

set_option Elab.async false
set_option linter.all false
set_option maxRecDepth 100000
set_option maxHeartbeats 8000000
/-! SndE: the whole of expressions. -/
namespace Z
open PySem L2 PySem.Spec PyProof.Rows

section
variable {P : Pg} {T : Tab} {k : Nat} {N : List Str}
abbrev gOf (P : Pg) (k : Nat) : Ctx := ⟨callF P k, P.glo, P.fuel⟩
theorem meth_ht {o : Expr} {m : Str} {apos pos : Pos} {es : List Expr} {env : PySem.Env} (hb : attributeBase o m env (eval o env) = eval o env) (hl : (apos.endLine == pos.line) = true) (hn : es.length < 20) (hs : ∀ z ∈ es, notStar z = true) :
    eval (.Call (.Attribute o m apos) es [] pos) env = (do
      let ov ← eval o env
      standAt apos.atName
      let (f, first) ← holding [ov] (getMethod ov m (do return (← importBound o env).getD true))
      callWith pos f first (backTo pos (starEach es env)) (backToKw pos (keywordEach [] env))) := by
  have hform : methodCallForm (es.length + ([] : List Keyword).length) (backTo pos (starEach es env)) (backToKw pos (keywordEach [] env)) = true := by
    have e1 : (backTo pos (starEach es env)).all (fun x => !x.1) = true := by
      have := backTo_of (pos := pos) es env hs
      rw [List.any_eq_false] at this
      rw [List.all_eq_true]
      intro x hx
      have := this x hx
      simpa using this
    have e2 : decide (es.length + ([] : List Keyword).length + (if ([] : List Keyword).isEmpty then 0 else 1) < 30) = true := by
      rw [decide_eq_true_eq]
      simp
      omega
    show ((backTo pos (starEach es env)).all (fun x => !x.1) && _ && decide (es.length + ([] : List Keyword).length + (if ([] : List Keyword).isEmpty then 0 else 1) < 30)) = true
    rw [e1, e2]
    rfl
  have hpos : methodCallPos true o env apos pos = pure pos := by unfold methodCallPos; simp [hl]
  rw [arm_eval_Call, hb]
  unfold methodCall calleeOf
  rw [hform]
  simp only [hpos]
  rfl
theorem con_rep {d : D} {c : Const} (h : chkD d c = true) {X : Cx} {j : Nat} {pos : Pos} : PE X (.Constant c j pos) (tEv X.kw fun _ S => .ok (d, S)) := by
  cases d with
  | non => cases c <;> first | exact se_con pe_non (fun _ _ _ _ => by simp only [Rep]) | cases h
  | bl b =>
    cases c <;> first | cases h | skip
    rename_i b'
    have : b = b' := by simpa [chkD] using h
    subst this
    exact se_con pe_bl fun _ _ _ _ => by simp only [Rep]
  | int i =>
    cases c <;> first | cases h | skip
    rename_i b'
    have : i = b' := by simpa [chkD] using h
    subst this
    exact se_con pe_int fun _ _ _ _ => by simp only [Rep]
  | str s =>
    cases c <;> first | cases h | skip
    rename_i x
    have : x = toS s ∧ s.length ≤ 10000 := by simpa [chkD] using h
    obtain ⟨rfl, hl⟩ := this
    refine se_con pe_str fun _ _ _ _ => ?_
    simp only [Rep]
    have : sizeLine = 16777216 := by decide
    exact ⟨trivial, by omega⟩
  | _ => cases h
mutual
theorem soundE : ∀ (c : E) {sc : Scope} {X : Cx} (hC : Cok P T k N sc X) (e : Expr), chkE T N sc c e = true → PE X e (tEv X.kw (evE (gOf P k) c))
  | .var i, sc, X, hC, e, h => by
    unfold chkE at h
    split at h
    · simp only [Bool.and_eq_true, decide_eq_true_eq] at h
      obtain ⟨n1, n2, n3⟩ := okN_1 h.2
      exact pe_of (se_var (by rw [hC.n]; exact h.1.1) (hC.vis _ h.1.2) n1 n2) fun rho S => by (simp only [evE]) <;> rfl
    · cases h
  | .con d, sc, X, hC, e, h => by
    unfold chkE at h
    split at h
    · exact pe_of (con_rep h) fun rho S => by (simp only [evE]) <;> rfl
    · cases h
  | .glo x, sc, X, hC, e, h => by
    unfold chkE at h
    split at h
    · rename_i y pos
      simp only [Bool.and_eq_true, decide_eq_true_eq] at h
      obtain ⟨⟨⟨rfl, h2⟩, h3⟩, h4⟩ := h
      obtain ⟨v, u, d, e1, e2, r, rr⟩ := hC.glo x (by simpa using h4)
      obtain ⟨n1, n2, n3⟩ := okN_1 h3
      refine pe_of (se_con (pe_glob (hC.glb x h2) e2 r n1) rr) fun rho S => ?_
      simp only [evE]
      rw [e1]
    · cases h
  | .tup cs, sc, X, hC, e, h => by
    unfold chkE at h
    split at h
    · simp only [Bool.and_eq_true, decide_eq_true_eq] at h
      exact pe_of (se_tup (soundEs cs hC _ h.1) (len1000 h.2) fun rho S p e => by rw [evEs_len e, (chkEs_star h.1).2]) fun rho S => by (simp only [evE]) <;> rfl
    · cases h
  | .lst m cs, sc, X, hC, e, h => by
    unfold chkE at h
    split at h
    · simp only [Bool.and_eq_true, decide_eq_true_eq] at h
      exact pe_of (se_lst (m := m) (soundEs cs hC _ h.1) (len1000 h.2) fun rho S p e => by rw [evEs_len e, (chkEs_star h.1).2]) fun rho S => by (simp only [evE]) <;> rfl
    · cases h
  | .dct ks vs, sc, X, hC, e, h => by
    unfold chkE at h
    split at h
    · exact pe_of se_dct0 fun rho S => by (simp only [evE]) <;> rfl
    · rename_i a c b d a' c' b' d' pos
      simp only [Bool.and_eq_true] at h
      obtain ⟨⟨⟨h1, h2⟩, h3⟩, h4⟩ := h
      have none : (∀ rho S, evE (gOf P k) (.dct [a, c] [b, d]) rho S = .bad) → PE X (.Dict [some a', some c'] [b', d'] pos) (tEv X.kw (evE (gOf P k) (.dct [a, c] [b, d]))) := fun z => ⟨fun pins s σ H Q I ⟨al, U, S, rho, dd, S', sr, er, e, q⟩ => by rw [z] at e; cases e⟩
      cases a with
      | con x =>
        cases x with
        | str sa =>
          cases c with
          | con y =>
            cases y with
            | str sc' =>
              cases b with
              | con z =>
                cases z with
                | str sb =>
                  cases d with
                  | con w =>
                    cases w with
                    | str sd =>
                      by_cases hac : sa = sc'
                      · exact none fun rho S => by simp only [evE]; rw [if_neg (fun z => z hac)]
                      · unfold chkE at h1 h2 h3 h4
                        split at h1 <;> first | cases h1 | skip
                        split at h2 <;> first | cases h2 | skip
                        split at h3 <;> first | cases h3 | skip
                        split at h4 <;> first | cases h4 | skip
                        exact pe_of (se_dct2 hac h1 h2 h3 h4) fun rho S => by simp only [evE]; rw [if_pos hac]
                    | _ => exact none fun rho S => by simp only [evE]
                  | _ => exact none fun rho S => by simp only [evE]
                | _ => exact none fun rho S => by simp only [evE]
              | _ => exact none fun rho S => by simp only [evE]
            | _ => exact none fun rho S => by simp only [evE]
          | _ => exact none fun rho S => by simp only [evE]
        | _ => exact none fun rho S => by simp only [evE]
      | _ => exact none fun rho S => by simp only [evE]
    · cases h
  | .dcn ks vs, sc, X, hC, e, h => by
    unfold chkE at h
    split at h
    · exact pe_of se_dcn0 fun rho S => by (simp only [evE]) <;> rfl
    · rename_i a b a' b' pos
      rw [Bool.and_eq_true] at h
      exact pe_of (se_dcn1 (hu64 hC) (soundE a hC _ h.1) (soundE b hC _ h.2)) fun rho S => by (simp only [evE]) <;> rfl
    · cases h
  | .bin o a b, sc, X, hC, e, h => by
    unfold chkE at h
    split at h
    · simp only [Bool.and_eq_true, decide_eq_true_eq] at h
      obtain ⟨⟨rfl, h2⟩, h3⟩ := h
      exact pe_of (se_bin o (soundE a hC _ h2) (soundE b hC _ h3)) fun rho S => by (simp only [evE]) <;> rfl
    · cases h
  | .neg a, sc, X, hC, e, h => by
    unfold chkE at h
    split at h
    · exact pe_of (se_neg (soundE a hC _ h)) fun rho S => by (simp only [evE]) <;> rfl
    · cases h
  | .not a, sc, X, hC, e, h => by
    unfold chkE at h
    split at h
    · exact pe_of (se_not (soundE a hC _ h)) fun rho S => by (simp only [evE]) <;> rfl
    · cases h
  | .and cs, sc, X, hC, e, h => by
    unfold chkE at h
    split at h
    · exact pe_of (soundA cs hC _ h) fun rho S => by (simp only [evE]) <;> rfl
    · cases h
  | .or cs, sc, X, hC, e, h => by
    unfold chkE at h
    split at h
    · exact pe_of (soundO cs hC _ h) fun rho S => by (simp only [evE]) <;> rfl
    · cases h
  | .orv a b, sc, X, hC, e, h => by
    unfold chkE at h
    split at h
    · rw [Bool.and_eq_true] at h
      exact pe_of (se_orv (soundE a hC _ h.1) (soundE b hC _ h.2)) fun rho S => by (simp only [evE]) <;> rfl
    · cases h
  | .cmp o a b, sc, X, hC, e, h => by
    unfold chkE at h
    split at h
    · simp only [Bool.and_eq_true, decide_eq_true_eq] at h
      obtain ⟨⟨⟨rfl, h1⟩, h2⟩, h3⟩ := h
      exact pe_of (se_cmp (hu64 hC) o (soundE a hC _ h2) (soundE b hC _ h3) (nomark_of h1)) fun rho S => by (simp only [evE]) <;> rfl
    · cases h
  | .chain o o' a b c, sc, X, hC, e, h => by
    unfold chkE at h
    split at h
    · simp only [Bool.and_eq_true, decide_eq_true_eq] at h
      obtain ⟨⟨⟨⟨⟨⟨rfl, rfl⟩, h1⟩, h1'⟩, h2⟩, h3⟩, h4⟩ := h
      exact pe_of (se_chain (hu64 hC) o o' (soundE a hC _ h2) (soundE b hC _ h3) (soundE c hC _ h4) (lastMarks_of h1')) fun rho S => by (simp only [evE]) <;> rfl
    · cases h
  | .ix a i, sc, X, hC, e, h => by
    unfold chkE at h
    split at h
    · simp only [Bool.and_eq_true, decide_eq_true_eq] at h
      exact pe_of (se_ix (hu64 hC) (soundE a hC _ h.1.2) (soundE i hC _ h.2) (plainIx_of h.1.1)) fun rho S => by (simp only [evE]) <;> rfl
    · cases h
  | .sl m a l lo hh hi, sc, X, hC, e, h => by
    unfold chkE at h
    split at h
    · rename_i a' lo' hi' _ _
      rw [Bool.and_eq_true, Bool.and_eq_true] at h
      obtain ⟨⟨h1, h2⟩, h3⟩ := h
      have hlo : PO X lo' (tEvP X.kw fun rho S => if l then (evE (gOf P k) lo rho S).bind partD else .ok (none, S)) := by
        cases lo' with
        | none =>
          have : l = false := by simpa using h2
          subst this
          exact so_none
        | some x =>
          simp only [Bool.and_eq_true] at h2
          obtain ⟨rfl, h2⟩ := h2
          exact so_some (soundE lo hC _ h2)
      have hhi : PO X hi' (tEvP X.kw fun rho S => if hh then (evE (gOf P k) hi rho S).bind partD else .ok (none, S)) := by
        cases hi' with
        | none =>
          have : hh = false := by simpa using h3
          subst this
          exact so_none
        | some x =>
          simp only [Bool.and_eq_true] at h3
          obtain ⟨rfl, h3⟩ := h3
          exact so_some (soundE hi hC _ h3)
      exact pe_of (se_sl (m := m) (soundE a hC _ h1) hlo hhi) fun rho S => by (simp only [evE]) <;> rfl
    · cases h
  | .rev a, sc, X, hC, e, h => by
    unfold chkE at h
    split at h
    · exact pe_of (se_rev (soundE a hC _ h)) fun rho S => by (simp only [evE]) <;> rfl
    · cases h
  | .no, sc, X, hC, e, h => by
    unfold chkE at h
    cases h
  | .call f cs, sc, X, hC, e, h => by
    unfold chkE at h
    split at h
    · rename_i x p es pos
      simp only [Bool.and_eq_true, decide_eq_true_eq] at h
      obtain ⟨⟨⟨⟨rfl, h2⟩, h3⟩, h4⟩, h5⟩ := h
      obtain ⟨g, fd, ps, F, hm, hk, hb⟩ := hC.fn f (by simpa using h4)
      obtain ⟨n1, n2, n3⟩ := okN_1 h3
      obtain ⟨st, ln⟩ := chkEs_star h5
      have ha := soundEs cs hC _ h5
      cases es with
      | nil =>
        cases cs with
        | nil => exact pe_of (se_call0 F hC.rm (hC.glb f h2) hm hk hb n1) fun rho S => by simp only [evE, evEs, R.ok_bind]
        | cons _ _ => cases ln
      | cons a es =>
        exact pe_of (se_call F hC.rm (hC.glb f h2) hm hk hb ha n1 (star_of (st a List.mem_cons_self)) (backTo_of es X.env fun z hz => st z (List.mem_cons_of_mem _ hz))) fun rho S => by (simp only [evE]) <;> rfl
    · cases h
  | .callv i cs, sc, X, hC, e, h => by
    unfold chkE at h
    split at h
    · rename_i x p a es pos
      simp only [Bool.and_eq_true, decide_eq_true_eq] at h
      obtain ⟨⟨⟨h1, h2⟩, h3⟩, h5⟩ := h
      obtain ⟨n1, n2, n3⟩ := okN_1 h3
      obtain ⟨st, ln⟩ := chkEs_star h5
      exact pe_of (se_callv (fun y f ds S r hf hr => hC.held hf hr) hC.rm (by rw [hC.n]; exact h1) (hC.vis _ h2) (soundEs cs hC _ h5) n1 n2 (star_of (st a List.mem_cons_self)) (backTo_of es X.env fun z hz => st z (List.mem_cons_of_mem _ hz))) fun rho S => by (simp only [evE]) <;> rfl
    · cases h
  | .fld c a f, sc, X, hC, e, h => by
    unfold chkE at h
    split at h
    · simp only [Bool.and_eq_true, decide_eq_true_eq] at h
      obtain ⟨⟨⟨rfl, h2⟩, h3⟩, h4⟩ := h
      obtain ⟨C, hc, na⟩ := hC.fld (c, f) (by simpa using h3)
      exact pe_of (se_fld hc na (soundE a hC _ h4) (base_of h2)) fun rho S => by (simp only [evE]) <;> rfl
    · cases h
  | .new c f cs, sc, X, hC, e, h => by
    unfold chkE at h
    split at h
    · rename_i x p a es pos
      simp only [Bool.and_eq_true, decide_eq_true_eq] at h
      obtain ⟨⟨⟨⟨rfl, h2⟩, h3⟩, h4⟩, h5⟩ := h
      obtain ⟨C, g, fd, ps, hc, hm, M, F, hb⟩ := hC.mkc (c, f) (by simpa using h4)
      obtain ⟨n1, n2, n3⟩ := okN_1 h3
      obtain ⟨st, ln⟩ := chkEs_star h5
      exact pe_of (se_new hc M F hC.room (hC.glb c h2) hm hb (soundEs cs hC _ h5) n1 (star_of (st a List.mem_cons_self)) (backTo_of es X.env fun z hz => st z (List.mem_cons_of_mem _ hz))) fun rho S => by (simp only [evE]) <;> rfl
    · cases h
  | .meth c m f o cs, sc, X, hC, e, h => by
    unfold chkE at h
    split at h
    · rename_i o' name apos es cpos
      simp only [Bool.and_eq_true, decide_eq_true_eq] at h
      obtain ⟨⟨⟨⟨⟨⟨rfl, h2⟩, h3⟩, h4⟩, h0⟩, h5⟩, h6⟩ := h
      obtain ⟨C, g, fd, ps, hc, hm, F, hb⟩ := hC.mth (c, m, f) (by simpa using h2)
      obtain ⟨st, ln⟩ := chkEs_star h6
      cases es with
      | nil =>
        cases cs with
        | nil => exact pe_of (se_meth0 hc hm F hC.rm hb (soundE o hC _ h5) (meth_ht (base_of h3) h4 h0 st)) fun rho S => by simp only [evE, evEs, R.ok_bind]
        | cons _ _ => cases ln
      | cons a es =>
        exact pe_of (se_meth hc hm F hC.rm hb (soundE o hC _ h5) (soundEs cs hC _ h6) (star_of (st a List.mem_cons_self)) (backTo_of es X.env fun z hz => st z (List.mem_cons_of_mem _ hz)) (meth_ht (base_of h3) h4 h0 st)) fun rho S => by (simp only [evE]) <;> rfl
    · cases h
  | .blt m b cs, sc, X, hC, e, h => by
    unfold chkE at h
    split at h
    · rename_i x p es pos
      split at h
      · rename_i t a' y p2
        simp only [Bool.and_eq_true, decide_eq_true_eq, Bool.not_eq_true', decide_eq_false_iff_not] at h
        obtain ⟨⟨⟨⟨⟨⟨⟨⟨⟨h1, h2⟩, h3⟩, h4⟩, h5⟩, h6⟩, h7⟩, h8⟩, h9⟩, h10⟩ := h
        cases cs with
        | nil => simp [chkEs] at h10
        | cons c cs =>
          cases cs with
          | nil =>
            simp only [chkEs, Bool.and_eq_true] at h10
            exact pe_of (se_isi (m := m) hC h8 h1 h2 (by simpa using h3) h4 h5 (by simpa using h6) h7 (soundE c hC _ h10.1.2) h9) fun rho S => by (simp only [evE, evEs, R.bind_assoc, R.ok_bind]) <;> rfl
          | cons _ _ => simp [chkEs] at h10
      · rename_i y p2 a' pos2
        simp only [Bool.and_eq_true, decide_eq_true_eq] at h
        obtain ⟨⟨⟨⟨⟨⟨⟨⟨h1, h2⟩, h3⟩, h4⟩, h5⟩, h6⟩, h7⟩, h8⟩, h9⟩ := h
        cases cs with
        | nil => simp [chkEs] at h9
        | cons c cs =>
          cases cs with
          | nil =>
            simp only [chkEs, Bool.and_eq_true] at h9
            exact pe_of (se_lrg (m := m) hC h1 h2 (by simpa using h3) h4 h5 h6 (by simpa using h7) (soundE c hC _ h9.1.2) h8) fun rho S => by (simp only [evE, evEs, R.bind_assoc, R.ok_bind]) <;> rfl
          | cons _ _ => simp [chkEs] at h9
      · rename_i y p2 a' pos2
        simp only [Bool.and_eq_true, decide_eq_true_eq] at h
        obtain ⟨⟨⟨⟨⟨⟨⟨⟨h1, h2⟩, h3⟩, h4⟩, h5⟩, h6⟩, h7⟩, h8⟩, h9⟩ := h
        cases cs with
        | nil => simp [chkEs] at h9
        | cons c cs =>
          cases cs with
          | nil =>
            simp only [chkEs, Bool.and_eq_true] at h9
            exact pe_of (se_trg (m := m) hC h1 h2 (by simpa using h3) h4 h5 h6 (by simpa using h7) (soundE c hC _ h9.1.2) h8) fun rho S => by (simp only [evE, evEs, R.bind_assoc, R.ok_bind]) <;> rfl
          | cons _ _ => simp [chkEs] at h9
      · rename_i y p2 a' pos2
        simp only [Bool.and_eq_true, decide_eq_true_eq] at h
        obtain ⟨⟨⟨⟨⟨⟨⟨h1, h2⟩, h3⟩, h5⟩, h6⟩, h7⟩, h8⟩, h9⟩ := h
        cases cs with
        | nil => simp [chkEs] at h9
        | cons c cs =>
          cases cs with
          | nil =>
            simp only [chkEs, Bool.and_eq_true] at h9
            subst h5
            exact pe_of (se_set (m := m) (srt := true) hC.calm h1 (hC.glb _ h2) (hC.blt _ (by simpa using h3)) (hC.glb _ h6) (hC.blt _ (by simpa using h7)) (soundE c hC _ h9.1.2) (star_of h8)) fun rho S => by (simp only [evE, evEs, R.bind_assoc, R.ok_bind]) <;> rfl
          | cons _ _ => simp [chkEs] at h9
      · rename_i y p2 a' pos2
        simp only [Bool.and_eq_true, decide_eq_true_eq] at h
        obtain ⟨⟨⟨⟨⟨⟨⟨h1, h2⟩, h3⟩, h5⟩, h6⟩, h7⟩, h8⟩, h9⟩ := h
        cases cs with
        | nil => simp [chkEs] at h9
        | cons c cs =>
          cases cs with
          | nil =>
            simp only [chkEs, Bool.and_eq_true] at h9
            subst h5
            exact pe_of (se_set (m := m) (srt := false) hC.calm h1 (hC.glb _ h2) (hC.blt _ (by simpa using h3)) (hC.glb _ h6) (hC.blt _ (by simpa using h7)) (soundE c hC _ h9.1.2) (star_of h8)) fun rho S => by (simp only [evE, evEs, R.bind_assoc, R.ok_bind]) <;> rfl
          | cons _ _ => simp [chkEs] at h9
      · simp only [Bool.and_eq_true, decide_eq_true_eq] at h
        obtain ⟨⟨⟨⟨⟨h1, h2⟩, h3⟩, h4⟩, h5⟩, h6⟩ := h
        exact pe_of (se_bt (m := m) hC h2 h1 h3 h4 (by simpa using h5) (soundEs cs hC _ h6) (chkEs_star h6).1) fun rho S => by (simp only [evE]) <;> rfl
      · cases h
    · rename_i a' op y p2 b' pos2 pos
      split at h
      · simp only [Bool.and_eq_true, decide_eq_true_eq] at h
        obtain ⟨⟨⟨⟨⟨rfl, rfl⟩, h3⟩, h4⟩, h5⟩, h6⟩ := h
        cases cs with
        | nil => simp [chkEs] at h6
        | cons c1 cs =>
          cases cs with
          | nil => simp [chkEs] at h6
          | cons c2 cs =>
            cases cs with
            | nil =>
              simp only [chkEs, Bool.and_eq_true] at h6
              exact pe_of (se_inrg false (hC.glb _ h3) (hC.blt _ (by simpa using h4)) (soundE c1 hC _ h6.1.2) (soundE c2 hC _ h6.2.1.2) (star_of h5)) fun rho S => by (simp only [evE, evEs, R.bind_assoc, R.ok_bind]) <;> rfl
            | cons _ _ => simp [chkEs] at h6
      · simp only [Bool.and_eq_true, decide_eq_true_eq] at h
        obtain ⟨⟨⟨⟨⟨rfl, rfl⟩, h3⟩, h4⟩, h5⟩, h6⟩ := h
        cases cs with
        | nil => simp [chkEs] at h6
        | cons c1 cs =>
          cases cs with
          | nil => simp [chkEs] at h6
          | cons c2 cs =>
            cases cs with
            | nil =>
              simp only [chkEs, Bool.and_eq_true] at h6
              exact pe_of (se_inrg true (hC.glb _ h3) (hC.blt _ (by simpa using h4)) (soundE c1 hC _ h6.1.2) (soundE c2 hC _ h6.2.1.2) (star_of h5)) fun rho S => by (simp only [evE, evEs, R.bind_assoc, R.ok_bind]) <;> rfl
            | cons _ _ => simp [chkEs] at h6
      · cases h
    · cases h
  | .mth t o cs, sc, X, hC, e, h => by
    unfold chkE at h
    split at h
    · split at h
      · simp only [Bool.and_eq_true, decide_eq_true_eq] at h
        obtain ⟨⟨⟨h1, h2⟩, h3⟩, h4⟩ := h
        subst h1
        exact pe_of (se_upr (base_of h2) h3 (soundE o hC _ h4)) fun rho S => by (simp only [evE, evEs, R.ok_bind]) <;> rfl
      · simp only [Bool.and_eq_true, decide_eq_true_eq] at h
        obtain ⟨⟨⟨h1, h2⟩, h3⟩, h4⟩ := h
        subst h1
        exact pe_of (se_pop0 (base_of h2) h3 (soundE o hC _ h4)) fun rho S => by (simp only [evE, evEs, R.ok_bind]) <;> rfl
      · cases h
    · simp only [Bool.and_eq_true, decide_eq_true_eq] at h
      obtain ⟨⟨⟨⟨⟨⟨h1, h2⟩, h3⟩, h4⟩, h5⟩, h6⟩, h7⟩ := h
      exact pe_of (se_mt hC h2 h1 h3 h4 h5 (soundE o hC _ h6) (soundEs cs hC _ h7) (chkEs_star h7).1) fun rho S => by (simp only [evE]) <;> rfl
    · cases h
  | .isx a rs cs tup, sc, X, hC, e, h => by
    unfold chkE at h
    split at h
    · simp only [Bool.and_eq_true, decide_eq_true_eq] at h
      obtain ⟨⟨⟨⟨⟨⟨h1, h2⟩, h3⟩, h4⟩, h5⟩, h6⟩, h7⟩ := h
      exact pe_of (se_isx hC.v h1 h2 (by simpa using h3) h4 (soundE a hC _ h5) (fun r hr => by simpa using List.all_eq_true.mp h6 r hr) h7) fun rho S => by (simp only [evE]) <;> rfl
    · cases h
  | .comp m own g one kk its c e0, sc, X, hC, e, h => by
    unfold chkE at h
    split at h
    · rename_i elt gens scope pos
      split at h
      · rename_i tg iter ifs as
        simp only [Bool.and_eq_true, decide_eq_true_eq] at h
        obtain ⟨⟨⟨⟨⟨⟨rfl, h2⟩, h3⟩, h4⟩, h5⟩, h6⟩, h7⟩ := h
        have hmap : (ownP N own).map (·.2) = own := by
          unfold ownP
          rw [List.map_map]
          exact List.map_id' own
        have hgo : ∀ i ∈ g, i ∈ (ownP N own).map (·.2) := fun i hi => by
          rw [hmap]
          have := List.all_eq_true.mp h3 i hi
          simpa using this
        obtain ⟨hi, hs⟩ := soundI kk its hC tg iter h5
        have ht : ∀ (s : Shared) (H : Hp) (C : Addr) (cl : List (Str × Addr)) (fp : List Addr), PTs (X.blk s H scope (compEnvC scope cl C X.env) fp) ifs (tEvT X.kw (evE (gOf P k) c)) := by
          intro s H C cl fp
          split at h6
          · unfold isYes at h6
            split at h6
            · exact ⟨fun pins s σ H Q I q => sts_nil.run pins s σ H Q I (tEvT.of (fun rho S => by simp only [evE]) q)⟩
            · cases h6
          · exact sts_one (soundT c (hC.blk (own := ownP N own) s H C cl fp) _ h6)
          · cases h6
        refine pe_of (se_comp (m := m) (own := ownP N own) (g := g) (one := one) hC.calm (by rw [hC.n]; exact hC.nd) hi (BlkOk.by_sc hC h2) hgo (fun s H C cl fp => target_pg (hC.blk (own := ownP N own) s H C cl fp) h4) ht (fun s H C cl fp => soundE e0 (hC.blk (own := ownP N own) s H C cl fp) _ h7) hs) fun rho S => ?_
        rw [hmap]
        simp only [evE, R.bind_assoc, R.ok_bind]
        rfl
      · cases h
    · cases h
termination_by c => (sizeOf c, 0)
theorem soundEs : ∀ (cs : List E) {sc : Scope} {X : Cx} (hC : Cok P T k N sc X) (es : List Expr), chkEs T N sc cs es = true → PA X es (tEvs X.kw (evEs (gOf P k) cs))
  | [], sc, X, hC, es, h => by
    unfold chkEs at h
    split at h
    · exact pa_of sa_nil fun rho S => by simp only [evEs]
    · cases h
  | c :: cs, sc, X, hC, es, h => by
    unfold chkEs at h
    split at h
    · simp only [Bool.and_eq_true] at h
      exact pa_of (sa_cons (soundE c hC _ h.1.2) (soundEs cs hC _ h.2) (star_of h.1.1)) fun rho S => by simp only [evEs]
    · cases h
termination_by c => (sizeOf c, 0)
theorem soundA : ∀ (cs : List E) {sc : Scope} {X : Cx} (hC : Cok P T k N sc X) (es : List Expr), chkEs T N sc cs es = true → ∀ {pos : Pos}, PE X (.BoolOp .And es pos) (tEv X.kw (evAnd (gOf P k) cs))
  | [], sc, X, hC, es, h, pos => ⟨fun pins s σ H Q I ⟨al, U, S, rho, d, S', sr, er, e, q⟩ => by simp only [evAnd] at e; cases e⟩
  | [c], sc, X, hC, es, h, pos => by
    unfold chkEs at h
    split at h
    · simp only [Bool.and_eq_true] at h
      obtain ⟨⟨h1, h2⟩, h3⟩ := h
      unfold chkEs at h3
      split at h3
      · exact pe_of (se_one (soundE c hC _ h2)) fun rho S => by simp only [evAnd]
      · cases h3
    · cases h
  | c :: d :: cs, sc, X, hC, es, h, pos => by
    have h0 := h
    unfold chkEs at h
    split at h
    · rename_i e es'
      simp only [Bool.and_eq_true] at h
      obtain ⟨⟨h1, h2⟩, h3⟩ := h
      cases es' with
      | nil => simp [chkEs] at h3
      | cons e' es' => exact pe_of (se_and (soundE c hC _ h2) (soundA (d :: cs) hC _ h3)) fun rho S => by (simp only [evAnd]) <;> rfl
    · cases h
termination_by c => (sizeOf c, 0)
theorem soundO : ∀ (cs : List E) {sc : Scope} {X : Cx} (hC : Cok P T k N sc X) (es : List Expr), chkEs T N sc cs es = true → ∀ {pos : Pos}, PE X (.BoolOp .Or es pos) (tEv X.kw (evOr (gOf P k) cs))
  | [], sc, X, hC, es, h, pos => ⟨fun pins s σ H Q I ⟨al, U, S, rho, d, S', sr, er, e, q⟩ => by simp only [evOr] at e; cases e⟩
  | [c], sc, X, hC, es, h, pos => by
    unfold chkEs at h
    split at h
    · simp only [Bool.and_eq_true] at h
      obtain ⟨⟨h1, h2⟩, h3⟩ := h
      unfold chkEs at h3
      split at h3
      · exact pe_of (se_one (soundE c hC _ h2)) fun rho S => by simp only [evOr]
      · cases h3
    · cases h
  | c :: d :: cs, sc, X, hC, es, h, pos => by
    unfold chkEs at h
    split at h
    · rename_i e es'
      simp only [Bool.and_eq_true] at h
      obtain ⟨⟨h1, h2⟩, h3⟩ := h
      cases es' with
      | nil => simp [chkEs] at h3
      | cons e' es' => exact pe_of (se_or (soundE c hC _ h2) (soundO (d :: cs) hC _ h3)) fun rho S => by (simp only [evOr]) <;> rfl
    · cases h
termination_by c => (sizeOf c, 0)
theorem soundWA : ∀ (cs : List E) {sc : Scope} {X : Cx} (hC : Cok P T k N sc X) (es : List Expr), chkEs T N sc cs es = true → ∀ {pos : Pos}, PW X (.BoolOp .And es pos) (tEvT X.kw (evAnd (gOf P k) cs))
  | [], sc, X, hC, es, h, pos => ⟨fun wh pins s σ H Q I ⟨al, U, S, rho, d, S', sr, er, e, q⟩ => by simp only [evAnd] at e; cases e⟩
  | [c], sc, X, hC, es, h, pos => by
    unfold chkEs at h
    split at h
    · simp only [Bool.and_eq_true] at h
      obtain ⟨⟨h1, h2⟩, h3⟩ := h
      unfold chkEs at h3
      split at h3
      · exact pw_of (sw_and1 (soundT c hC _ h2)) fun rho S => by simp only [evAnd]
      · cases h3
    · cases h
  | c :: d :: cs, sc, X, hC, es, h, pos => by
    unfold chkEs at h
    split at h
    · rename_i e es'
      simp only [Bool.and_eq_true] at h
      obtain ⟨⟨h1, h2⟩, h3⟩ := h
      cases es' with
      | nil => simp [chkEs] at h3
      | cons e' es' => exact pw_of (sw_and (soundT c hC _ h2) (soundWA (d :: cs) hC _ h3)) fun rho S => by (simp only [evAnd]) <;> rfl
    · cases h
termination_by c => (sizeOf c, 0)
theorem soundWO : ∀ (cs : List E) {sc : Scope} {X : Cx} (hC : Cok P T k N sc X) (es : List Expr), chkEs T N sc cs es = true → ∀ {pos : Pos}, PW X (.BoolOp .Or es pos) (tEvT X.kw (evOr (gOf P k) cs))
  | [], sc, X, hC, es, h, pos => ⟨fun wh pins s σ H Q I ⟨al, U, S, rho, d, S', sr, er, e, q⟩ => by simp only [evOr] at e; cases e⟩
  | [c], sc, X, hC, es, h, pos => by
    unfold chkEs at h
    split at h
    · simp only [Bool.and_eq_true] at h
      obtain ⟨⟨h1, h2⟩, h3⟩ := h
      unfold chkEs at h3
      split at h3
      · exact pw_of (sw_or1 (soundT c hC _ h2)) fun rho S => by simp only [evOr]
      · cases h3
    · cases h
  | c :: d :: cs, sc, X, hC, es, h, pos => by
    unfold chkEs at h
    split at h
    · rename_i e es'
      simp only [Bool.and_eq_true] at h
      obtain ⟨⟨h1, h2⟩, h3⟩ := h
      cases es' with
      | nil => simp [chkEs] at h3
      | cons e' es' => exact pw_of (sw_or (soundT c hC _ h2) (soundWO (d :: cs) hC _ h3)) fun rho S => by (simp only [evOr]) <;> rfl
    · cases h
termination_by c => (sizeOf c, 0)
theorem soundI (kk : IK) : ∀ (cs : List E) {sc : Scope} {X : Cx} (hC : Cok P T k N sc X) (tg iter : Expr), chkI T N sc kk tg cs iter = true → PI X tg iter (tEvI X.kw fun rho S => (evEs (gOf P k) cs rho S).bind fun p => (itrD kk p.1 p.2).bind fun it => .ok (it, p.2)) ∧ ∀ x, foldedSetIterable iter X.env x = pure x
  | [], sc, X, hC, tg, iter, h => by
    unfold chkI at h
    cases h
  | [c], sc, X, hC, tg, iter, h => by
    unfold chkI at h
    split at h
    · simp only [Bool.and_eq_true] at h
      exact ⟨pi_of (si_sq (soundE c hC _ h.2)) fun rho S => by simp only [evEs, R.bind_assoc, R.ok_bind], fold_of h.1⟩
    · split at h
      · simp only [Bool.and_eq_true, decide_eq_true_eq] at h
        obtain ⟨⟨⟨⟨rfl, h2⟩, h3⟩, h4⟩, h5⟩ := h
        refine ⟨pi_of (si_rng1 (hC.glb _ h2) (hC.blt _ (by simpa using h3)) (sa_cons (soundE c hC _ h5) sa_nil (star_of h4)) (star_of h4)) fun rho S => by simp only [evEs, R.bind_assoc, R.ok_bind], fun _ => rfl⟩
      · cases h
    · split at h
      · simp only [Bool.and_eq_true, decide_eq_true_eq] at h
        obtain ⟨⟨⟨⟨⟨rfl, h2⟩, h3⟩, h4⟩, h8⟩, h5⟩ := h
        cases tg with
        | Tuple elts kk2 tpos =>
          refine ⟨pi_of (si_enum (hC.glb _ h2) (hC.blt _ (by simpa using h3)) (sa_cons (soundE c hC _ h5) sa_nil (star_of h4)) (star_of h4)) fun rho S => by simp only [evEs, R.bind_assoc, R.ok_bind], fun _ => rfl⟩
        | _ => cases h8
      · cases h
    · cases h
  | [c, d], sc, X, hC, tg, iter, h => by
    unfold chkI at h
    split at h
    · split at h
      · simp only [Bool.and_eq_true, decide_eq_true_eq] at h
        obtain ⟨⟨⟨⟨⟨⟨rfl, h2⟩, h3⟩, h4⟩, h5⟩, h6⟩, h7⟩ := h
        refine ⟨pi_of (si_rng2 (hC.glb _ h2) (hC.blt _ (by simpa using h3)) (sa_cons (soundE c hC _ h6) (sa_cons (soundE d hC _ h7) sa_nil (star_of h5)) (star_of h4)) (by rw [star_of h4, star_of h5]; rfl) (star_of h5)) fun rho S => by simp only [evEs, R.bind_assoc, R.ok_bind], fun _ => rfl⟩
      · cases h
    · split at h
      · simp only [Bool.and_eq_true, decide_eq_true_eq] at h
        obtain ⟨⟨⟨⟨⟨⟨⟨rfl, h2⟩, h3⟩, h4⟩, h5⟩, h8⟩, h6⟩, h7⟩ := h
        cases tg with
        | Tuple elts kk2 tpos =>
          refine ⟨pi_of (si_zip2 hC.calm (hC.glb _ h2) (hC.blt _ (by simpa using h3)) (sa_cons (soundE c hC _ h6) (sa_cons (soundE d hC _ h7) sa_nil (star_of h5)) (star_of h4)) (by rw [star_of h4]) (by rw [star_of h5]; rfl)) fun rho S => by simp only [evEs, R.bind_assoc, R.ok_bind], fun _ => rfl⟩
        | _ => cases h8
      · cases h
    · cases h
  | [c, d, f], sc, X, hC, tg, iter, h => by
    unfold chkI at h
    split at h
    · split at h
      · simp only [Bool.and_eq_true, decide_eq_true_eq] at h
        obtain ⟨⟨⟨⟨⟨⟨⟨⟨rfl, h2⟩, h3⟩, h4⟩, h5⟩, h5'⟩, h6⟩, h7⟩, h8⟩ := h
        refine ⟨pi_of (si_rng3 (hC.glb _ h2) (hC.blt _ (by simpa using h3)) (sa_cons (soundE c hC _ h6) (sa_cons (soundE d hC _ h7) (sa_cons (soundE f hC _ h8) sa_nil (star_of h5')) (star_of h5)) (star_of h4)) (by rw [star_of h4]) (by rw [star_of h5, star_of h5']; rfl)) fun rho S => by simp only [evEs, R.bind_assoc, R.ok_bind], fun _ => rfl⟩
      · cases h
    · cases h
  | _ :: _ :: _ :: _ :: _, sc, X, hC, tg, iter, h => by
    unfold chkI at h
    cases h
termination_by c => (sizeOf c, 0)
theorem soundT : ∀ (c : E) {sc : Scope} {X : Cx} (hC : Cok P T k N sc X) (e : Expr), chkE T N sc c e = true → PT X e (tEvT X.kw (evE (gOf P k) c))
  | .not a, sc, X, hC, e, h => by
    unfold chkE at h
    split at h
    · exact pt_of (st_not (soundT a hC _ h)) fun rho S => by (simp only [evE]) <;> rfl
    · cases h
  | .and cs, sc, X, hC, e, h => by
    unfold chkE at h
    split at h
    · exact pt_of (soundWA cs hC _ h).pt fun rho S => by (simp only [evE]) <;> rfl
    · cases h
  | .or cs, sc, X, hC, e, h => by
    unfold chkE at h
    split at h
    · exact pt_of (soundWO cs hC _ h).pt fun rho S => by (simp only [evE]) <;> rfl
    · cases h
  | .cmp o a b, sc, X, hC, e, h => by
    unfold chkE at h
    split at h
    · simp only [Bool.and_eq_true, decide_eq_true_eq] at h
      obtain ⟨⟨⟨rfl, h1⟩, h2⟩, h3⟩ := h
      exact pt_of (st_cmp (hu64 hC) o (soundE a hC _ h2) (soundE b hC _ h3) (nomark_of h1)) fun rho S => by (simp only [evE]) <;> rfl
    · cases h
  | .chain o o' a b c, sc, X, hC, e, h => by
    unfold chkE at h
    split at h
    · simp only [Bool.and_eq_true, decide_eq_true_eq] at h
      obtain ⟨⟨⟨⟨⟨⟨rfl, rfl⟩, h1⟩, h1'⟩, h2⟩, h3⟩, h4⟩ := h
      exact pt_of (st_chain (hu64 hC) o o' (soundE a hC _ h2) (soundE b hC _ h3) (soundE c hC _ h4) (lastMarks_of h1')) fun rho S => by (simp only [evE]) <;> rfl
    · cases h
  | .var i, sc, X, hC, e, h => st_val (soundE (.var i) hC e h) (by unfold chkE at h; split at h <;> first | exact fun _ => rfl | cases h)
  | .con d, sc, X, hC, e, h => st_val (soundE (.con d) hC e h) (by unfold chkE at h; split at h <;> first | exact fun _ => rfl | cases h)
  | .glo x, sc, X, hC, e, h => st_val (soundE (.glo x) hC e h) (by unfold chkE at h; split at h <;> first | exact fun _ => rfl | cases h)
  | .ix a i, sc, X, hC, e, h => st_val (soundE (.ix a i) hC e h) (by unfold chkE at h; split at h <;> first | exact fun _ => rfl | cases h)
  | .call f cs, sc, X, hC, e, h => st_val (soundE (.call f cs) hC e h) (by unfold chkE at h; split at h <;> first | exact fun _ => rfl | cases h)
  | .blt m b cs, sc, X, hC, e, h => by
    have hv := soundE (.blt m b cs) hC e h
    unfold chkE at h
    split at h
    · exact st_val hv fun _ => rfl
    · rename_i a' op y p2 b' pos2 pos
      split at h
      · simp only [Bool.and_eq_true, decide_eq_true_eq] at h
        obtain ⟨⟨⟨⟨⟨rfl, rfl⟩, h3⟩, h4⟩, h5⟩, h6⟩ := h
        cases cs with
        | nil => simp [chkEs] at h6
        | cons c1 cs =>
          cases cs with
          | nil => simp [chkEs] at h6
          | cons c2 cs =>
            cases cs with
            | nil =>
              simp only [chkEs, Bool.and_eq_true] at h6
              exact pt_of (st_inrg false (hC.glb _ h3) (hC.blt _ (by simpa using h4)) (soundE c1 hC _ h6.1.2) (soundE c2 hC _ h6.2.1.2) (star_of h5)) fun rho S => by (simp only [evE, evEs, R.bind_assoc, R.ok_bind]) <;> rfl
            | cons _ _ => simp [chkEs] at h6
      · simp only [Bool.and_eq_true, decide_eq_true_eq] at h
        obtain ⟨⟨⟨⟨⟨rfl, rfl⟩, h3⟩, h4⟩, h5⟩, h6⟩ := h
        cases cs with
        | nil => simp [chkEs] at h6
        | cons c1 cs =>
          cases cs with
          | nil => simp [chkEs] at h6
          | cons c2 cs =>
            cases cs with
            | nil =>
              simp only [chkEs, Bool.and_eq_true] at h6
              exact pt_of (st_inrg true (hC.glb _ h3) (hC.blt _ (by simpa using h4)) (soundE c1 hC _ h6.1.2) (soundE c2 hC _ h6.2.1.2) (star_of h5)) fun rho S => by (simp only [evE, evEs, R.bind_assoc, R.ok_bind]) <;> rfl
            | cons _ _ => simp [chkEs] at h6
      · cases h
    · cases h
  | .isx a rs cs tup, sc, X, hC, e, h => st_val (soundE (.isx a rs cs tup) hC e h) (by unfold chkE at h; split at h <;> first | exact fun _ => rfl | cases h)
  | .callv i cs, sc, X, hC, e, h => st_val (soundE (.callv i cs) hC e h) (by unfold chkE at h; split at h <;> first | exact fun _ => rfl | cases h)
  | .fld c a f, sc, X, hC, e, h => st_val (soundE (.fld c a f) hC e h) (by unfold chkE at h; split at h <;> first | exact fun _ => rfl | cases h)
  | .new c f cs, sc, X, hC, e, h => st_val (soundE (.new c f cs) hC e h) (by unfold chkE at h; split at h <;> first | exact fun _ => rfl | cases h)
  | .meth c m f o cs, sc, X, hC, e, h => st_val (soundE (.meth c m f o cs) hC e h) (by unfold chkE at h; split at h <;> first | exact fun _ => rfl | cases h)
  | .mth t o cs, sc, X, hC, e, h => st_val (soundE (.mth t o cs) hC e h) (by unfold chkE at h; split at h <;> first | exact fun _ => rfl | cases h)
  | .tup cs, sc, X, hC, e, h => st_val (soundE (.tup cs) hC e h) (by unfold chkE at h; split at h <;> first | exact fun _ => rfl | cases h)
  | .lst m cs, sc, X, hC, e, h => st_val (soundE (.lst m cs) hC e h) (by unfold chkE at h; split at h <;> first | exact fun _ => rfl | cases h)
  | .dcn ks vs, sc, X, hC, e, h => st_val (soundE (.dcn ks vs) hC e h) (by unfold chkE at h; split at h <;> first | exact fun _ => rfl | cases h)
  | .orv a b, sc, X, hC, e, h => ⟨fun pins s σ H Q I ⟨al, U, S, rho, d, S', sr, er, e, q⟩ => by
      exfalso
      simp only [evE] at e
      obtain ⟨⟨d1, S1⟩, e1, e⟩ := R.bind_ok e
      have no : ∀ r : R (D × Store), r.bind tupOnly = .ok (.bl d, S') → False := fun r e => by
        obtain ⟨⟨d2, S2⟩, e2, e⟩ := R.bind_ok e
        unfold tupOnly at e
        simp only at e
        split at e <;> cases e
      simp only at e
      split at e
      · cases e
      · exact no _ e
      · exact no _ e
      · cases e⟩
  | .dct ks vs, sc, X, hC, e, h => st_val (soundE (.dct ks vs) hC e h) (by unfold chkE at h; split at h <;> first | exact fun _ => rfl | cases h)
  | .bin o a b, sc, X, hC, e, h => st_val (soundE (.bin o a b) hC e h) (by unfold chkE at h; split at h <;> first | exact fun _ => rfl | cases h)
  | .neg a, sc, X, hC, e, h => st_val (soundE (.neg a) hC e h) (by unfold chkE at h; split at h <;> first | exact fun _ => rfl | cases h)
  | .sl m a l lo hh hi, sc, X, hC, e, h => st_val (soundE (.sl m a l lo hh hi) hC e h) (by unfold chkE at h; split at h <;> first | exact fun _ => rfl | cases h)
  | .rev a, sc, X, hC, e, h => st_val (soundE (.rev a) hC e h) (by unfold chkE at h; split at h <;> first | exact fun _ => rfl | cases h)
  | .no, sc, X, hC, e, h => by unfold chkE at h; cases h
  | .comp m own g one kk its c e0, sc, X, hC, e, h => st_val (soundE (.comp m own g one kk its c e0) hC e h) (by unfold chkE at h; split at h <;> first | exact fun _ => rfl | cases h)
termination_by c => (sizeOf c, 1)
end
end
end Z

set_option Elab.async false
set_option linter.all false
set_option maxRecDepth 100000
set_option maxHeartbeats 4000000
/-! Exx: errors that expressions let out. -/
namespace Z
open PySem L2 PySem.Spec PyProof.Rows

def tEx (K : KW) (W : WX) (f : Env → Store → R (D × Store)) : TE := fun σ H _ => ∃ al U S rho c o S', SR K al U S H ∧ ER K al S.length U H rho σ ∧ f rho S = .exc c o S' ∧
  ∀ H' al' C, Nxt al S.length H al' S'.length H' → SR K al' U S' H' → PySem.W.nsIn K.K mainGlobals c = some (some (.ref C)) → W (.ref C) none σ H'
def tExs (K : KW) (W : WX) (f : Env → Store → R (List D × Store)) : TA := fun σ H _ => ∃ al U S rho c o S', SR K al U S H ∧ ER K al S.length U H rho σ ∧ f rho S = .exc c o S' ∧
  ∀ H' al' C, Nxt al S.length H al' S'.length H' → SR K al' U S' H' → PySem.W.nsIn K.K mainGlobals c = some (some (.ref C)) → W (.ref C) none σ H'
theorem bind_exc {A B : Type} {r : R A} {f : A → R B} {c : Str} {o : Option D} {S : Store} (h : R.bind r f = .exc c o S) : r = .exc c o S ∨ ∃ a, r = .ok a ∧ f a = .exc c o S := by
  cases r with
  | ok a => exact .inr ⟨a, rfl, h⟩
  | exc _ _ _ => cases h; exact .inl rfl
  | bad => cases h
section
variable {X : Cx} {e : Expr} {es : List Expr} {W : WX} {f : Env → Store → R (D × Store)} {g : Env → Store → R (List D × Store)}
theorem pe_or {t1 t2 : TE} (h1 : PE X e t1) (h2 : PE X e t2) : PE X e (fun σ H Q => t1 σ H Q ∨ t2 σ H Q) := ⟨fun pins s σ H Q I h => h.elim (h1.run pins s σ H Q I) (h2.run pins s σ H Q I)⟩
end
section
variable {P : Pg} {T : Tab} {k : Nat} {N : List Str}
end
end Z

set_option Elab.async false
set_option linter.all false
set_option maxRecDepth 100000
set_option maxHeartbeats 4000000
/-! Sut: what stands in an except suite. -/
namespace Z
open PySem L2 PySem.Spec PyProof.Rows

def notCompX : Expr → Bool
  | .ListComp _ _ _ _ => false
  | .SetComp _ _ _ _ => false
  | .DictComp _ _ _ _ _ => false
  | _ => true
mutual
def qE : E → Bool
  | .var _ => true
  | .con _ => true
  | .isx a _ _ _ => qE a
  | .not a => qE a
  | .and es => qEs es
  | .cmp _ a b => qE a && qE b
  | .ix a b => qE a && qE b
  | .lst _ es => qEs es
  | .blt _ .int [a] => qE a
  | _ => false
def qEs : List E → Bool
  | [] => true
  | e :: es => qE e && qEs es
end
mutual
def chkQ (T : Tab) (N : List Str) (sc : Scope) : S → Stmt → Bool
  | .asg g e, s => match g, s with
    | .nm i, .Assign [.Name y _] v _ => decide (N[i]? = some y) && locC sc y && qE e && chkE T N sc e v && notCompX v
    | _, _ => false
  | .ite c a b, s => match s with
    | .If t x y _ => qE c && chkE T N sc c t && chkQs T N sc a x && chkQs T N sc b y
    | _ => false
  | .pas, s => match s with
    | .Pass _ => true
    | _ => false
  | _, _ => false
def chkQs (T : Tab) (N : List Str) (sc : Scope) : List S → List Stmt → Bool
  | [], ss => match ss with
    | [] => true
    | _ => false
  | c :: cs, ss => match ss with
    | s :: ss => chkQ T N sc c s && chkQs T N sc cs ss
    | _ => false
end
section
variable {T : Tab} {N : List Str} {sc : Scope} {X : Cx} {G : Ctx}
end
/-! ### statements -/
section
variable {T : Tab} {N : List Str} {sc : Scope} {X : Cx} {G : Ctx} {W : WX}
theorem hold_ok {b : Bool} {ρ : Env} {r : R (Fl × Env × Store)} {p : Fl × Env × Store} (h : R.hold b ρ r = .ok p) : r = .ok p ∨ (b = true ∧ ∃ c o S, r = .exc c o S ∧ p = (.ex c, ρ, S)) := by
  cases r with
  | ok a => exact .inl h
  | exc c o S =>
    unfold R.hold at h
    simp only at h
    split at h
    · cases h
      exact .inr ⟨by assumption, c, o, S, rfl, rfl⟩
    · cases h
  | bad => cases h
theorem hold_nx {b : Bool} {ρ : Env} {r : R (Fl × Env × Store)} {c : Str} {o : Option D} {S : Store} : R.hold b ρ r ≠ .exc c o S := by
  intro h
  cases r with
  | ok a => cases h
  | exc c o S =>
    unfold R.hold at h
    simp only at h
    split at h <;> cases h
  | bad => cases h
theorem evSs_nx {G : Ctx} : ∀ {cs : List Z.S} {rho : Env} {S : Store} {c : Str} {o : Option D} {S' : Store}, evSs G cs rho S ≠ .exc c o S'
  | [], rho, S, c, o, S', h => by
    simp only [evSs] at h
    cases h
  | a :: as, rho, S, c, o, S', h => by
    simp only [evSs] at h
    rcases bind_exc h with h | ⟨p, _, h⟩
    · exact hold_nx h
    · split at h
      · exact evSs_nx h
      · cases h
end
end Z

set_option Elab.async false
set_option linter.all false
set_option maxRecDepth 100000
set_option maxHeartbeats 8000000
/-! Stm: statements, defs. -/
namespace Z
open PySem L2 PySem.Spec PyProof.Rows

def notComp : Expr → Bool
  | .ListComp _ _ _ _ => false
  | .SetComp _ _ _ _ => false
  | .DictComp _ _ _ _ _ => false
  | _ => true
def notName : Expr → Bool
  | .Name _ _ => false
  | _ => true
mutual
def chkG (T : Tab) (N : List Str) (sc : Scope) : Tg → Expr → Bool
  | .nm i, e => match e with
    | .Name x _ => decide (N[i]? = some x) && locC sc x
    | _ => false
  | .tp gs, e => match e with
    | .Tuple es _ _ => chkGs T N sc gs es
    | _ => false
  | .sub o i, e => match e with
    | .Subscript o' i' _ => notSlice i' && chkE T N sc o o' && chkE T N sc i i'
    | _ => false
def chkGs (T : Tab) (N : List Str) (sc : Scope) : List Tg → List Expr → Bool
  | [], es => match es with
    | [] => true
    | _ => false
  | g :: gs, es => match es with
    | e :: es => notStar e && chkG T N sc g e && chkGs T N sc gs es
    | _ => false
end
def lclX (sc : Scope) : Expr → Bool
  | .Name x _ => decide (sc.names.lookup x = some .local)
  | _ => false
/-- the two sides of a statement of two tuples: stored in order, nothing known ahead -/
def swNone (sc : Scope) (tg v : Expr) : Bool := match tg, v with
  | .Tuple ts _ _, .Tuple _ _ _ => !(ts.length == 2 || ts.length == 3) || !(ts.all (lclX sc))
  | .List _ _, _ => false
  | _, _ => true
/-- a, b = x, y with plain names: stored from the right -/
def swPar (N : List Str) (sc : Scope) (g : Tg) (e : E) (tg v : Expr) : Bool := match g, e, tg, v with
  | .tp [.nm i, .nm j], .tup [_, _], .Tuple [.Name x px, .Name y py] _ _, .Tuple [a, b] _ _ =>
    decide (N[i]? = some x) && decide (N[j]? = some y) && decide (i ≠ j) && decide (sc.names.lookup x = some .local) && decide (sc.names.lookup y = some .local) && decide (py.line = px.line) &&
      decide ([x, y].eraseDups.length = 2) && !([a, b].any fun | .Starred .. => true | _ => false) && !([a, b].all (foldedForSure 8)) && !([a, b].all (constantsAlone 8))
  | _, _, _, _ => false
mutual
def chkS (T : Tab) (N : List Str) (sc : Scope) : S → Stmt → Bool
  | .asg g e, s => match s with
    | .Assign [tg] v spos => match g, tg with
      | .nm i, .Name y py => decide (N[i]? = some y) && locC sc y && chkE T N sc e v &&
          (match v with
          | .ListComp _ _ scope pos => if decide (sc.names.lookup y = some .local) && (py.line == pos.line) then !(scope.names.any fun (n, k) => n == y && (k == .local || k == .cell)) else true
          | .SetComp _ _ _ _ => false
          | .DictComp _ _ _ _ _ => false
          | _ => true)
      | g, tg => chkE T N sc e v && chkG T N sc g tg && notName tg && notStar tg && (swNone sc tg v || swPar N sc g e tg v)
    | _ => false
  | .exp e, s => match s with
    | .Expr v _ => chkE T N sc e v && notComp v
    | _ => false
  | .ite c a b, s => match s with
    | .If t x y _ => chkE T N sc c t && chkSs T N sc a x && chkSs T N sc b y
    | _ => false
  | .fo g one k its body, s => match s with
    | .For tg iter x [] _ => chkT N sc g one tg && chkI T N sc k tg its iter && chkSs T N sc body x
    | _ => false
  | .whl c body, s => match s with
    | .While t x [] _ => chkE T N sc c t && chkSs T N sc body x
    | _ => false
  | .ret e, s => match s with
    | .Return (some v) _ => chkE T N sc e v
    | _ => false
  | .pas, s => match s with
    | .Pass _ => true
    | _ => false
  | .brk, s => match s with
    | .Break _ => true
    | _ => false
  | .cnt, s => match s with
    | .Continue _ => true
    | _ => false
  | .rse, _ => true
  | .setf c o f e, s => match s with
    | .Assign [.Attribute o' f' _] v _ => decide (f = f') && notComp v && T.fl.contains (c, f) && chkE T N sc o o' && chkE T N sc e v
    | _ => false
  | .rsx c, s => match s with
    | .Raise (some (.Call (.Name x _) [.Constant (.str _) _ _] [] _)) none _ => decide (c = x) && gloC sc x && okN x && T.rs.contains c
    | _ => false
  | .tryx _ _ _ _ _, _ => false
def chkSs (T : Tab) (N : List Str) (sc : Scope) : List S → List Stmt → Bool
  | [], ss => match ss with
    | [] => true
    | _ => false
  | c :: cs, ss => match ss with
    | s :: ss => chkS T N sc c s && chkSs T N sc cs ss
    | _ => false
end

structure Sok (P : Pg) (T : Tab) (k : Nat) (N : List Str) (sc : Scope) (X : Cx) (W : WX) : Prop extends Cok P T k N sc X where
  sce : X.env.scope = sc
  fnt : ∀ x, X.fn x = true
  knd : sc.kind = .function
  own : PassesOwn (model X.prog X.w) X.A X.env X.xe
  tk : Takes X W
  stk : X.stack = X.env :: X.outer
  frm : X.env.frame = some X.env.locals

theorem assign_sub {o i : Expr} {pos : Pos} {env : PySem.Env} (h : notSlice i = true) : ∀ v, assign (.Subscript o i pos) env v = (do
      let ov ← holding [v] (eval o env)
      let iv ← holding [v, ov] (eval i env)
      standAt pos
      holding [v, ov, iv] (setItem ov iv v)
      release [v, ov, iv] []) := fun v => by
  cases i <;> first | rfl | cases h
theorem swaps_none {e : Expr} {tg : Option Expr} {l : Nat} {env : PySem.Env} (h : notComp e = true) : swapsWith e tg l env = pure false := by
  cases e <;> first | rfl | cases h
theorem swaps_sub {e tg : Expr} {l : Nat} {env : PySem.Env} (h : notName tg = true) : swapsWith e (some tg) l env = pure false := by
  cases e <;> first | rfl | (cases tg <;> first | rfl | cases h)
theorem each_one {tg : Expr} {env : PySem.Env} (h : notStar tg = true) : (assignEach [tg] env).map (·.2) = [assign tg env] := by
  cases tg <;> first | rfl | cases h
theorem each_cons {tg : Expr} {es : List Expr} {env : PySem.Env} (h : notStar tg = true) : assignEach (tg :: es) env = (false, assign tg env) :: assignEach es env := by
  cases tg <;> first | rfl | cases h
section
variable {P : Pg} {T : Tab} {k : Nat} {N : List Str} {sc : Scope} {X : Cx} {W : WX}
theorem fewer {f : Expr → Option Str} {p : Expr → Bool} (hf : ∀ t, p t = false → f t = none) : ∀ ts : List Expr, ts.all p = false → (ts.filterMap f).length < ts.length
  | [], h => by simp at h
  | t :: ts, h => by
    rw [List.all_cons, Bool.and_eq_false_iff] at h
    have hl : (ts.filterMap f).length ≤ ts.length := List.length_filterMap_le _ _
    by_cases hlc : p t = false
    · rw [List.filterMap_cons_none (hf t hlc), List.length_cons]
      omega
    · have ih' := fewer hf ts (h.resolve_left hlc)
      rw [List.filterMap_cons, List.length_cons]
      split
      · omega
      · rw [List.length_cons]; omega
theorem swapped_none (hS : Sok P T k N sc X W) {tg v : Expr} (h : swNone sc tg v = true) : swappedStores [tg] v X.env = pure none := by
  unfold swappedStores
  cases tg with
  | Tuple ts kt pt =>
    cases v with
    | Tuple vs kv pv =>
      simp only [swNone, Bool.or_eq_true, Bool.not_eq_true'] at h
      simp only
      split
      · rfl
      · rename_i h1
        split
        · rfl
        · split
          · rfl
          · rename_i h3
            exfalso
            simp only [Bool.or_eq_true, not_or, bne_iff_ne, ne_eq, Decidable.not_not, Bool.not_eq_true', Bool.not_eq_true] at h1 h3
            rcases h with h | h
            · have := h1.1.1
              rw [Bool.or_eq_false_iff] at h
              simp [h] at this
            · refine absurd h3.1 (Nat.ne_of_lt (fewer (p := lclX sc) ?_ ts h))
              intro t ht
              cases t with
              | Name id pos =>
                have hk : X.env.kindOf id = sc.names.lookup id := by rw [← hS.sce]; rfl
                simp only [lclX, decide_eq_false_iff_not] at ht
                simp only
                rw [hk, if_neg]
                simp only [Bool.and_eq_true, beq_iff_eq]
                exact fun z => ht z.1
              | _ => rfl
    | _ => rfl
  | List es p => cases v <;> cases h
  | _ => cases v <;> rfl
theorem blockKind_fn (hS : Sok P T k N sc X W) : X.env.blockKind = .function := by
  unfold PySem.Env.blockKind
  rw [hS.sce, hS.knd]
  rfl
mutual
theorem soundG (hS : Sok P T k N sc X W) : ∀ (g : Tg) (e : Expr), chkG T N sc g e = true → PG X e (tEvG X.kw (asg (gOf P k) g))
  | .nm i, e, h => by
    unfold chkG at h
    split at h
    · simp only [Bool.and_eq_true, decide_eq_true_eq] at h
      obtain ⟨l1, l2⟩ := hS.loc _ h.2
      refine pg_weak (sg_nm (by rw [hS.n]; exact hS.nd) (by rw [hS.n]; exact h.1) l1 l2) fun v σ H Q q => ?_
      obtain ⟨al, U, S, rho, d, rho', S', sr, er, rd, e, q⟩ := q
      exact ⟨al, U, S, rho, d, rho', S', sr, er, rd, by simpa only [asg] using e, q⟩
    · cases h
  | .tp gs, e, h => by
    unfold chkG at h
    split at h
    · obtain ⟨a, b, c⟩ := soundGs hS gs _ h
      refine pg_weak (sg_tp hS.calm a b c) fun v σ H Q q => ?_
      obtain ⟨al, U, S, rho, d, rho', S', sr, er, rd, e, q⟩ := q
      refine ⟨al, U, S, rho, d, rho', S', sr, er, rd, ?_, q⟩
      simp only [asg] at e
      exact e
    · cases h
  | .sub o i, e, h => by
    unfold chkG at h
    split at h
    · simp only [Bool.and_eq_true] at h
      refine pg_weak (sg_sub (hu64 hS.toCok) (soundE o hS.toCok _ h.1.2) (soundE i hS.toCok _ h.2) (assign_sub h.1.1)) fun v σ H Q q => ?_
      obtain ⟨al, U, S, rho, d, rho', S', sr, er, rd, e, q⟩ := q
      exact ⟨al, U, S, rho, d, rho', S', sr, er, rd, by simpa only [asg] using e, q⟩
    · cases h
theorem soundGs (hS : Sok P T k N sc X W) : ∀ (gs : List Tg) (es : List Expr), chkGs T N sc gs es = true → PGs X es (tEvGs X.kw (asgs (gOf P k) gs)) ∧ (assignEach es X.env).length = gs.length ∧ (assignEach es X.env).findIdx? (·.1) = none
  | [], es, h => by
    unfold chkGs at h
    split at h
    · refine ⟨⟨fun pins s σ H vs us Q I r q => sgs_nil.run pins s σ H vs us Q I r ?_⟩, rfl, rfl⟩
      obtain ⟨al, U, S, rho, ds, rho', S', sr, er, rd, e, q⟩ := q
      refine ⟨al, U, S, rho, ds, rho', S', sr, er, rd, ?_, q⟩
      cases ds with
      | nil => simpa only [asgs] using e
      | cons _ _ => simp only [asgs] at e; cases e
    · cases h
  | g :: gs, es, h => by
    unfold chkGs at h
    split at h
    · rename_i e es'
      simp only [Bool.and_eq_true] at h
      obtain ⟨⟨h1, h2⟩, h3⟩ := h
      obtain ⟨a, b, c⟩ := soundGs hS gs es' h3
      refine ⟨⟨fun pins s σ H vs us Q I r q => (sgs_cons (soundG hS g e h2) a (by rw [each_cons h1]; rfl)).run pins s σ H vs us Q I r ?_⟩, ?_, ?_⟩
      · obtain ⟨al, U, S, rho, ds, rho', S', sr, er, rd, e, q⟩ := q
        refine ⟨al, U, S, rho, ds, rho', S', sr, er, rd, ?_, q⟩
        cases ds with
        | nil => simp only [asgs] at e; cases e
        | cons _ _ => simpa only [asgs] using e
      · rw [each_cons h1, List.length_cons, b, List.length_cons]
      · rw [each_cons h1, List.findIdx?_cons, c]
        rfl
    · cases h
end
end
end Z

set_option Elab.async false
set_option linter.all false
set_option maxRecDepth 100000
set_option maxHeartbeats 8000000
/-! Stm2: the whole of statements; defs. -/
namespace Z
open PySem L2 PySem.Spec PyProof.Rows
section
variable {P : Pg} {T : Tab} {k : Nat} {N : List Str} {sc : Scope} {X : Cx} {W : WX}
theorem own_map (N : List Str) (own : List Nat) : (ownP N own).map (·.2) = own := by
  unfold ownP
  rw [List.map_map]
  exact List.map_id' own
theorem comp_parts (hC : Cok P T k N sc X) {m : Bool} {own g : List Nat} {one : Bool} {kk : IK} {its : List E} {c e0 : E} {elt : Expr} {gens : List Comprehension} {scope : Scope} {pos : Pos} (h : chkE T N sc (.comp m own g one kk its c e0) (.ListComp elt gens scope pos) = true) :
    ∃ tg iter ifs, gens = [⟨tg, iter, ifs, 0⟩] ∧ PI X tg iter (tEvI X.kw fun rho S => (evEs (gOf P k) its rho S).bind fun p => (itrD kk p.1 p.2).bind fun it => .ok (it, p.2)) ∧ BlkOk X.N X.env.scope scope (ownP N own) ∧ (∀ i ∈ g, i ∈ (ownP N own).map (·.2)) ∧
      (∀ (s : Shared) (H : Hp) (C : Addr) (cl : List (Str × Addr)) (fp : List Addr), PG (X.blk s H scope (compEnvC scope cl C X.env) fp) tg (gB X.kw g one)) ∧
      (∀ (s : Shared) (H : Hp) (C : Addr) (cl : List (Str × Addr)) (fp : List Addr), PTs (X.blk s H scope (compEnvC scope cl C X.env) fp) ifs (tEvT X.kw (evE (gOf P k) c))) ∧
      (∀ (s : Shared) (H : Hp) (C : Addr) (cl : List (Str × Addr)) (fp : List Addr), PE (X.blk s H scope (compEnvC scope cl C X.env) fp) elt (tEv X.kw (evE (gOf P k) e0))) ∧ (∀ x, foldedSetIterable iter X.env x = pure x) := by
  unfold chkE at h
  simp only at h
  split at h
  · rename_i tg iter ifs as
    simp only [Bool.and_eq_true, decide_eq_true_eq] at h
    obtain ⟨⟨⟨⟨⟨⟨rfl, h2⟩, h3⟩, h4⟩, h5⟩, h6⟩, h7⟩ := h
    have hgo : ∀ i ∈ g, i ∈ (ownP N own).map (·.2) := fun i hi => by
      rw [own_map]
      have := List.all_eq_true.mp h3 i hi
      simpa using this
    obtain ⟨hi, hs⟩ := soundI kk its hC tg iter h5
    refine ⟨tg, iter, ifs, rfl, hi, BlkOk.by_sc hC h2, hgo, fun s H C cl fp => target_pg (hC.blk (own := ownP N own) s H C cl fp) h4, fun s H C cl fp => ?_, fun s H C cl fp => soundE e0 (hC.blk (own := ownP N own) s H C cl fp) _ h7, hs⟩
    split at h6
    · unfold isYes at h6
      split at h6
      · exact ⟨fun pins s σ H Q I q => sts_nil.run pins s σ H Q I (tEvT.of (fun rho S => by simp only [evE]) q)⟩
      · cases h6
    · exact sts_one (soundT c (hC.blk (own := ownP N own) s H C cl fp) _ h6)
    · cases h6
  · cases h
theorem ps_setComp (hS : Sok P T k N sc X W) {i : Nat} {y : Str} {py : Pos} {e : E} {elt : Expr} {gens : List Comprehension} {scope : Scope} {pos spos : Pos} (hN : N[i]? = some y) (hl : locC sc y = true) (h : chkE T N sc e (.ListComp elt gens scope pos) = true)
    (hsw : (if decide (sc.names.lookup y = some .local) && (py.line == pos.line) then !(scope.names.any fun (n, k) => n == y && (k == .local || k == .cell)) else true) = true) :
    PS X (.Assign [.Name y py] (.ListComp elt gens scope pos) spos) (tEvS X.kw W fun rho S => (evE (gOf P k) e rho S).bind fun p => .ok (.nx, rho.set i (some p.1), p.2)) := by
  obtain ⟨l1, l2⟩ := hS.loc y hl
  have kk : X.env.kindOf y = sc.names.lookup y := by show X.env.scope.names.lookup y = _; rw [hS.sce]
  by_cases hc : (decide (sc.names.lookup y = some .local) && (py.line == pos.line)) = true
  · rw [if_pos hc] at hsw
    simp only [Bool.and_eq_true, decide_eq_true_eq] at hc
    have hyl : X.env.scope.names.lookup y = some .local := by rw [hS.sce]; exact hc.1
    cases e with
    | comp m own g one kk its c e0 =>
      obtain ⟨tg, iter, ifs, rfl, hi, ok, hgo, hg, ht, he, hs⟩ := comp_parts hS.toCok h
      refine ps_of (ss_setLc (m := m) (one := one) hS.calm (by rw [hS.n]; exact hS.nd) (by rw [hS.n]; exact hN) hyl (sw_true (by rw [hS.sce]; exact hS.knd) hyl hc.2 (by simpa using hsw)) hi ok hgo hg ht he hs) fun rho S => ?_
      rw [own_map]
      simp only [evE, R.bind_assoc, R.ok_bind]
      rfl
    | dct _ _ => unfold chkE at h; split at h <;> first | contradiction | cases h
    | dcn _ _ => unfold chkE at h; split at h <;> first | contradiction | cases h
    | _ => unfold chkE at h; first | cases h | (split at h <;> first | contradiction | cases h)
  · have hsn : swapsWith (.ListComp elt gens scope pos) (some (.Name y py)) spos.line X.env = pure false := by
      have hc' : (decide (sc.names.lookup y = some .local) && (py.line == pos.line)) = false := by simpa using hc
      have h2 : (X.env.kindOf y == some NameKind.local && py.line == pos.line) = false := by
        rw [kk, ← hc']
        congr 1
        rw [Bool.eq_iff_iff]
        simp
      have h3 : (X.env.blockKind == .function && X.env.kindOf y == some NameKind.local && py.line == pos.line) = false := by
        rw [Bool.and_assoc, h2, Bool.and_false]
      unfold swapsWith
      show (pure (X.env.blockKind == .function && X.env.kindOf y == some .local && py.line == pos.line && !(scope.names.any fun (n, k) => n == y && (k == .local || k == .cell))) : Sem Bool) = pure false
      rw [h3, Bool.false_and]
    exact ss_set (by rw [hS.n]; exact hS.nd) (by rw [hS.n]; exact hN) l1 l2 (soundE e hS.toCok _ h) hsn
theorem ss_par {G : Ctx} {i j : Nat} {x y : Str} {a b : Expr} {px py pt pos : Pos} {kt k2 : Nat} {pt2 : Pos} {fs : Env → Store → R (List D × Store)} (hc : X.calm = true) (hN : X.N.Nodup) (hi : X.N[i]? = some x) (hj : X.N[j]? = some y) (hij : i ≠ j)
    (hx : X.env.scope.names.lookup x = some .local) (hy : X.env.scope.names.lookup y = some .local) (ha : PA X [a, b] (tEvs X.kw fs))
    (hw : swappedStores [.Tuple [.Name x px, .Name y py] kt pt] (.Tuple [a, b] k2 pt2) X.env = pure (some [x, y])) :
    PS X (.Assign [.Tuple [.Name x px, .Name y py] kt pt] (.Tuple [a, b] k2 pt2) pos) (tEvS X.kw W fun rho S => (fs rho S).bind fun p => (asg G (.tp [.nm i, .nm j]) (.tup p.1) rho p.2).bind fun q => .ok (.nx, q)) := by
  refine ps_weak (ps_par hc hN hi hj hij hx hy ha hw) fun D σ H ⟨al, U, S, rho, fl, rho', S', sr, er, e, q⟩ => ?_
  obtain ⟨⟨ds, S1⟩, e1, e⟩ := R.bind_ok e
  obtain ⟨⟨rho2, S2⟩, e2, e⟩ := R.bind_ok e
  obtain ⟨d1, d2, rfl, h⟩ : ∃ d1 d2, ds = [d1, d2] ∧ R.ok (rho2, S2) = R.ok (((rho.set i (some d1)).set j (some d2)), S1) := by
    match ds, e2 with
    | [], e2 => simp [asg, asgs] at e2
    | [_], e2 => simp [asg, asgs] at e2
    | [d1, d2], e2 => exact ⟨d1, d2, rfl, by rw [← e2]; simp [asg, asgs]⟩
    | _ :: _ :: _ :: _, e2 => simp [asg, asgs] at e2
  cases h
  cases e
  refine ⟨al, U, S, rho, [d1, d2], _, sr, er, e1, fun vs H1 al1 n1 sr1 r1 => ?_⟩
  simp only [Reps] at r1
  obtain ⟨v1, r, rfl, q1, v2, r', rfl, q2, rfl⟩ := r1
  exact ⟨v1, v2, rfl, q _ H1 al1 n1 sr1 (((er.nxt n1).set q1 i).set q2 j)⟩
theorem swapped_par (hS : Sok P T k N sc X W) {x y : Str} {px py pt pt2 : Pos} {kt k2 : Nat} {a b : Expr} (hx : sc.names.lookup x = some .local) (hy : sc.names.lookup y = some .local) (hl : py.line = px.line) (hd : [x, y].eraseDups.length = 2)
    (h1 : ([a, b].any fun | .Starred .. => true | _ => false) = false) (h2 : [a, b].all (foldedForSure 8) = false) (h3 : [a, b].all (constantsAlone 8) = false) :
    swappedStores [.Tuple [.Name x px, .Name y py] kt pt] (.Tuple [a, b] k2 pt2) X.env = pure (some [x, y]) := by
  have bk := blockKind_fn hS
  have kx : X.env.kindOf x = some .local := by rw [← hx, ← hS.sce]; rfl
  have ky : X.env.kindOf y = some .local := by rw [← hy, ← hS.sce]; rfl
  have hp : (Expr.Name x px).pos.line = px.line := rfl
  unfold swappedStores
  simp only [List.length_cons, List.length_nil, bk, List.head?_cons, Option.map_some, Option.getD_some, List.filterMap_cons, List.filterMap_nil, kx, ky, hp, hl, beq_self_eq_true, Bool.and_self, if_true]
  refine (if_neg (by decide)).trans ?_
  refine (if_neg fun z => Bool.noConfusion ((show _ = false from h1).symm.trans z)).trans ?_
  refine (if_neg (by rw [hd]; decide)).trans ?_
  refine (if_neg (by rw [h2]; decide)).trans ?_
  refine (if_neg (by rw [h3]; decide)).trans ?_
  rfl
/-- raise x("..") -/
theorem ss_rsx (hS : Sok P T k N sc X W) {x m : Str} {j : Nat} {p p2 pos pos' : Pos} (hg : gloC sc x = true) (hn : okN x = true) (hr : x ∈ T.rs) :
    PS X (.Raise (some (.Call (.Name x p) [.Constant (.str m) j p2] [] pos)) none pos') (tEvS X.kw W fun rho S => .ok (.ex x, rho, S)) := by
  obtain ⟨C, R⟩ := hS.rai x hr
  obtain ⟨n1, n2, n3⟩ := okN_1 hn
  refine ps_weak (ps_raise hS.calm hS.tk (pmk_own PySem.F.excBase_ValueError R.x R.mg R.kp (raises_own R.b R.t) (hS.glb x hg) n1)) fun D σ H ⟨al, U, S, rho, fl, rho', S', sr, er, e, q⟩ => ?_
  cases e
  exact q σ H al C .refl sr er R.ns
theorem Sok.vs (hS : Sok P T k N sc X W) (a : Addr) (pn : List (Addr × Obj)) : Vok T N sc (X.suite a pn) :=
  ⟨hS.n, hS.nd, hS.vis, hS.loc, hS.glb, hS.room.units, hS.blt, hS.cls, hS.rai⟩
theorem takesF {Y : Cx} : Takes Y (fun _ _ _ _ => False) := fun _ _ x => by
  obtain ⟨_, _, _, _, _, _, _, _, _, _, _, _, _, _, _, _, z⟩ := x
  exact z.elim
/-- what a try makes of its body's end -/
def tryF (rs : List Str) (c : Str) (n : Option Nat) (fs : Env → Store → R (Fl × Env × Store)) (p : Fl × Env × Store) : R (Fl × Env × Store) := match p.1 with
  | .ex d => if d ∈ rs then (match subC d c with
    | some true => (fs (match n with
        | some i => p.2.1.set i (some (.exc d))
        | none => p.2.1) p.2.2).bind fun q => match q.1 with
      | .ex _ => .bad
      | _ => .ok (q.1, (match n with
        | some i => q.2.1.set i none
        | none => q.2.1), q.2.2)
    | some false => .ok p
    | none => .bad) else .bad
  | _ => .ok p
/-- a statement with the errors that it lets out -/
theorem soundH (hS : Sok P T k N sc X W) (c : S) (st : Stmt) (h : chkS T N sc c st = true) (h0 : PS X st (tEvS X.kw W (evS (gOf P k) c))) : PS X st (tEvS X.kw W fun rho S => (evS (gOf P k) c rho S).hold (xS c) rho) := by
  refine ps_weak h0 fun D σ H ⟨al, U, S, rho, fl, rho', S', sr, er, e, q⟩ => ⟨al, U, S, rho, fl, rho', S', sr, er, ?_, q⟩
  rcases hold_ok e with e | ⟨z, _⟩
  · exact e
  · exact absurd z Bool.false_ne_true
mutual
theorem soundS0 : ∀ (c : S) {X : Cx} {W : WX} (hS : Sok P T k N sc X W) (st : Stmt), chkS T N sc c st = true → PS X st (tEvS X.kw W (evS (gOf P k) c))
  | .asg g e, X, W, hS, st, h => by
    unfold chkS at h
    split at h
    · rename_i tg v spos
      split at h
      · rename_i i y py
        rw [Bool.and_eq_true, Bool.and_eq_true, Bool.and_eq_true, decide_eq_true_eq] at h
        obtain ⟨⟨⟨h1, h2⟩, h3⟩, h4⟩ := h
        obtain ⟨l1, l2⟩ := hS.loc y h2
        split at h4
        · exact ps_of (ps_setComp hS h1 h2 h3 h4) fun rho S => by (simp only [evS, asg, R.ok_bind]) <;> rfl
        · cases h4
        · cases h4
        · rename_i hv1 hv2 hv3
          have hn : notComp v = true := by
            cases v <;> first | rfl | exact absurd rfl (hv1 _ _ _ _) | exact absurd rfl (hv2 _ _ _ _) | exact absurd rfl (hv3 _ _ _ _ _)
          exact ps_of (ss_set (by rw [hS.n]; exact hS.nd) (by rw [hS.n]; exact h1) l1 l2 (soundE e hS.toCok _ h3) (swaps_none hn)) fun rho S => by (simp only [evS, asg, R.ok_bind]) <;> rfl
      · rw [Bool.and_eq_true, Bool.and_eq_true, Bool.and_eq_true, Bool.and_eq_true, Bool.or_eq_true] at h
        obtain ⟨⟨⟨⟨h1, h2⟩, h3⟩, h4⟩, h5⟩ := h
        rcases h5 with h5 | h5
        rotate_left
        · unfold swPar at h5
          split at h5
          · rename_i i j e1 e2 x px y py kt pt a b k2 pt2 _
            simp only [Bool.and_eq_true, decide_eq_true_eq, Bool.not_eq_true'] at h5
            obtain ⟨⟨⟨⟨⟨⟨⟨⟨⟨q1, q2⟩, q3⟩, q4⟩, q5⟩, q6⟩, q7⟩, q8⟩, q9⟩, q10⟩ := h5
            have hE : chkEs T N sc [e1, e2] [a, b] = true := by
              unfold chkE at h1
              simp only [Bool.and_eq_true] at h1
              exact h1.1
            exact ps_of (ss_par (G := gOf P k) hS.calm (by rw [hS.n]; exact hS.nd) (by rw [hS.n]; exact q1) (by rw [hS.n]; exact q2) q3 (by rw [hS.sce]; exact q4) (by rw [hS.sce]; exact q5) (soundEs [e1, e2] hS.toCok _ hE) (swapped_par hS q4 q5 q6 q7 q8 q9 q10)) fun rho S => by (simp only [evS, evE, R.bind_assoc, R.ok_bind]) <;> rfl
          · cases h5
        exact ps_of (ss_asg (soundE e hS.toCok _ h1) (soundG hS g _ h2) (swaps_sub h3) (swapped_none hS h5) (each_one h4)) fun rho S => by (simp only [evS]) <;> rfl
    · cases h
  | .exp e, X, W, hS, st, h => by
    unfold chkS at h
    split at h
    · simp only [Bool.and_eq_true] at h
      exact ps_of (ss_exp (soundE e hS.toCok _ h.1) (swaps_none h.2)) fun rho S => by (simp only [evS]) <;> rfl
    · cases h
  | .ite c a b, X, W, hS, st, h => by
    unfold chkS at h
    split at h
    · simp only [Bool.and_eq_true] at h
      exact ps_of (ss_ite (soundT c hS.toCok _ h.1.1) (soundSs a hS _ h.1.2) (soundSs b hS _ h.2)) fun rho S => by (simp only [evS]) <;> rfl
    · cases h
  | .fo g one kk its body, X, W, hS, st, h => by
    unfold chkS at h
    split at h
    · simp only [Bool.and_eq_true] at h
      obtain ⟨hi, hs⟩ := soundI kk its hS.toCok _ _ h.1.2
      exact ps_of (ss_for hS.own hS.calm hi (target_pg hS.toCok h.1.1) (soundSs body hS _ h.2) hs) fun rho S => by (simp only [evS, R.bind_assoc, R.ok_bind]) <;> rfl
    · cases h
  | .whl c body, X, W, hS, st, h => by
    unfold chkS at h
    split at h
    · simp only [Bool.and_eq_true] at h
      exact ps_of (ss_whl (fuel := P.fuel) hS.own (soundT c hS.toCok _ h.1) (soundSs body hS _ h.2)) fun rho S => by (simp only [evS]) <;> rfl
    · cases h
  | .ret e, X, W, hS, st, h => by
    unfold chkS at h
    split at h
    · exact ps_of (ss_ret (soundE e hS.toCok _ h)) fun rho S => by (simp only [evS]) <;> rfl
    · cases h
  | .pas, X, W, hS, st, h => by
    unfold chkS at h
    split at h
    · exact ps_of ss_pas fun rho S => by (simp only [evS]) <;> rfl
    · cases h
  | .brk, X, W, hS, st, h => by
    unfold chkS at h
    split at h
    · exact ps_of ss_brk fun rho S => by (simp only [evS]) <;> rfl
    · cases h
  | .cnt, X, W, hS, st, h => by
    unfold chkS at h
    split at h
    · exact ps_of ss_cnt fun rho S => by (simp only [evS]) <;> rfl
    · cases h
  | .rse, X, W, hS, st, h => ps_of ss_bad fun rho S => by (simp only [evS]) <;> rfl
  | .setf c o f e, X, W, hS, st, h => by
    unfold chkS at h
    split at h
    · simp only [Bool.and_eq_true, decide_eq_true_eq] at h
      obtain ⟨⟨⟨⟨rfl, h2⟩, h3⟩, h4⟩, h5⟩ := h
      obtain ⟨C, hc, na⟩ := hS.fld (c, f) (by simpa using h3)
      exact ps_of (se_setf hc na (soundE o hS.toCok _ h4) (soundE e hS.toCok _ h5) (swaps_none h2)) fun rho S => by (simp only [evS]) <;> rfl
    · cases h
  | .rsx c, X, W, hS, st, h => by
    unfold chkS at h
    split at h
    · simp only [Bool.and_eq_true, decide_eq_true_eq] at h
      obtain ⟨⟨⟨rfl, h2⟩, h3⟩, h4⟩ := h
      exact ps_of (ss_rsx hS h2 h3 (by simpa using h4)) fun rho S => by (simp only [evS]) <;> rfl
    · cases h
  | .tryx body rs c n suite, X, W, hS, st, h => by
    unfold chkS at h
    cases h
theorem soundSs : ∀ (cs : List S) {X : Cx} {W : WX} (hS : Sok P T k N sc X W) (ss : List Stmt), chkSs T N sc cs ss = true → PSs X ss (tEvS X.kw W (evSs (gOf P k) cs))
  | [], X, W, hS, ss, h => by
    unfold chkSs at h
    split at h
    · exact pss_of sss_nil fun rho S => by (simp only [evSs]) <;> rfl
    · cases h
  | c :: cs, X, W, hS, ss, h => by
    unfold chkSs at h
    split at h
    · simp only [Bool.and_eq_true] at h
      exact pss_of (sss_cons (soundH hS c _ h.1 (soundS0 c hS _ h.1)) (soundSs cs hS _ h.2)) fun rho S => by (simp only [evSs]) <;> rfl
    · cases h
end
end

/-! ### a def -/
/-- what the end hands over of a def: its text, names, code -/
structure Df where
  st : Stmt
  nam : Str
  qual : Str
  N : List Str
  ps : List Str
  fd : Fd
def dfC (T : Tab) (d : Df) : Bool := C8.scC d.N d.ps (defScope d.st) && chkSs T d.N (defScope d.st) d.fd.body (defBody d.st) && decide (d.fd.ps = d.ps.length) && decide (d.fd.ns = d.N.length)
section
variable {P : Pg} {T : Tab} {k : Nat} {prog : Program} {w : World} {K : PySem.W.Frag} {mg : Str → Option Value} {base : Heap}
structure Gok (P : Pg) (T : Tab) (K : PySem.W.Frag) (mg : Str → Option Value) : Prop where
  blt : ∀ x ∈ T.bl, mg x = none
  glo : ∀ x ∈ T.gl, ∃ v u d, P.glo x = some d ∧ mg x = some u ∧ RelV v u ∧ ∀ (w : World) al n U H, Rep ⟨K, w⟩ al n U H d v
  nsf : ∀ x f, PySem.W.nsIn K mainGlobals x = some (some (.ref f)) → mg x = some (.ref f)
  tfn : ∀ x d, P.fn x = some d → x ∈ T.fn ∨ mg x = none
  cls : ∀ c ∈ T.cl, ∃ C, ErrC K mg c C
  rai : ∀ c ∈ T.rs, ∃ C, RaiC T K mg c C
  fld : ∀ q ∈ T.fl, ∃ C, ClsAt K q.1 C ∧ NoAttr K C q.2
/-- every def of the table is kept, calls nested at most k deep -/
structure AllOk (P : Pg) (T : Tab) (prog : Program) (w : World) (K : PySem.W.Frag) (mg : Str → Option Value) (base : Heap) (k : Nat) : Prop where
  fns : ∀ x ∈ T.fn, ∃ f fd ps, FnOk prog w K mg base (L2.CX prog w) (2 * k) f fd ps (spOf ⟨K, w⟩ P k x) ∧ mg x = some (.ref f) ∧ PySem.W.keepIn K (.ref f) = true ∧ Binds K fd ps []
  mth : ∀ q ∈ T.ms, ∃ C g fd ps, ClsAt K q.1 C ∧ Meth K C q.2.1 g ∧ FnOk prog w K mg base (L2.CX prog w) (2 * k) g fd ps (spOf ⟨K, w⟩ P k q.2.2) ∧ Binds K fd ps []
  mkc : ∀ q ∈ T.mc, ∃ C g fd ps, ClsAt K q.1 C ∧ mg q.1 = some (.ref C) ∧ Mk K C g ∧ FnOk prog w K mg base (L2.CX prog w) (2 * k) g fd ps (spOf ⟨K, w⟩ P k q.2) ∧ Binds K fd ps []
theorem reps_len {K : KW} {al : Nat → Addr} {n : Nat} {U : List Addr} {H : Hp} {ds : List D} {vs : List V} (h : Reps K al n U H ds vs) : vs.length = ds.length := h.length.symm
theorem sp_len {x : Str} {d : Df} (hx : P.fn x = some d.fd) (hd : d.fd.ps = d.ps.length) : ∀ k vs H Q E, spOf ⟨K, w⟩ P k x vs H Q E → vs.length = d.ps.length := by
  intro k vs H Q E ⟨al, U, S, ds, sr, rs, h⟩
  cases k with
  | zero => rcases h with ⟨_, _, e, _⟩ | ⟨_, _, _, e, _⟩ <;> cases e
  | succ k =>
    rcases h with ⟨_, _, e, _⟩ | ⟨_, _, _, e, _⟩
    all_goals
      simp only [callF, hx, runF] at e
      split at e
      · rename_i hl
        rw [reps_len rs, hl, hd]
      · cases e
/-- a def's body in a context that takes the errors wished for -/
theorem body_ok {x : Str} {f : Addr} {d : Df} {X : Cx} {E : XK} (hS : Sok P T k d.N (defScope d.st) X (fun cls e _ H => E cls e H)) (hx : P.fn x = some d.fd) (h2 : chkSs T d.N (defScope d.st) d.fd.body (defBody d.st) = true) (h3 : d.fd.ps = d.ps.length) (h4 : d.fd.ns = d.N.length) {vs : List V} {H : Hp} {Q : VK}
    (hsp : spOf X.kw P (k + 1) x vs H Q E) : ∃ t, PSs X (defBody d.st) t ∧ t { nx := fun _ H' => Q .non H', rt := Q } (start d.N vs) H := by
  refine ⟨_, soundSs d.fd.body hS (defBody d.st) h2, ?_⟩
  obtain ⟨al, U, St0, ds, sr, rs, h⟩ := hsp
  have go : ∀ {r : R (D × Store)}, callF P (k + 1) x ds St0 = r → r ≠ .bad → ds.length = d.ps.length ∧ r = (evSs (gOf P k) d.fd.body (entry d.fd ds) St0).bind fun p => match p.1 with
      | .rt v => .ok (v, p.2.2)
      | .nx => .ok (.non, p.2.2)
      | .ex c => .exc c none p.2.2
      | _ => .bad := by
    intro r e hb
    simp only [callF, hx, runF] at e
    split at e
    · rename_i hl
      exact ⟨by rw [hl, h3], e.symm⟩
    · exact absurd e.symm hb
  have ent : ds.length = d.ps.length → ER X.kw al St0.length U H (entry d.fd ds) (L2.start d.N vs) := by
    intro hl
    unfold entry L2.start
    have hlen := rs.length
    refine ⟨by simp only [List.length_append, List.length_map, List.length_replicate]; omega, fun i d' he => ?_⟩
    by_cases hi : i < ds.length
    · rw [List.getElem?_append_left (by simpa using hi), List.getElem?_map] at he
      cases hdi : ds[i]? with
      | none => rw [hdi] at he; cases he
      | some d2 =>
        rw [hdi] at he
        cases he
        obtain ⟨v, hv, rv⟩ := rs.get hdi
        refine ⟨v, ?_, rv⟩
        rw [List.getElem?_append_left (by simp; omega), List.getElem?_map, hv]
        rfl
    · rw [List.getElem?_append_right (by simpa using Nat.le_of_not_lt hi)] at he
      rw [List.getElem?_replicate] at he
      split at he <;> cases he
  rcases h with ⟨r, S', e, q⟩ | ⟨c, o, S', e, q⟩
  · obtain ⟨hl, e⟩ := go e (fun z => nomatch z)
    obtain ⟨⟨fl, rho', S2⟩, e1, e⟩ := R.bind_ok e.symm
    refine ⟨al, U, St0, entry d.fd ds, fl, rho', S2, sr, ent hl, e1, ?_⟩
    cases fl with
    | nx => cases e; exact fun σ' H' al' n' sr' er' => q .non H' al' n' sr' (by simp only [Rep])
    | rt v => cases e; exact fun v' H' al' n' sr' r' => q v' H' al' n' sr' r'
    | bk => cases e
    | ct => cases e
    | ex c => cases e
  · obtain ⟨hl, e⟩ := go e (fun z => nomatch z)
    rcases bind_exc e.symm with e1 | ⟨⟨fl, rho', S2⟩, e1, e⟩
    · exact absurd e1 evSs_nx
    · refine ⟨al, U, St0, entry d.fd ds, fl, rho', S2, sr, ent hl, e1, ?_⟩
      cases fl with
      | nx => cases e
      | rt v => cases e
      | bk => cases e
      | ct => cases e
      | ex c => cases e; exact fun σ' H' al' C n' sr' er' hC => q H' al' C n' sr' hC
theorem sok_of {x : Str} {f : Addr} {fdd : FuncData} {d : Df} {CX : CXT} {cdv : Value} {A' : Around} {outer : List PySem.Env} {s : Shared} {H : Hp} {E : XK} {X : Cx} {W : WX} (G : Gok P T K mg) (A : AllOk P T prog w K mg base k) (S : FnScope d.N d.ps (defScope d.st))
    (hr : Room (2 * k + 1) (A'.deeper (envOfC d.qual (defScope d.st) s.heap.objs.size f cdv))) (hX : X = cxOf CX prog w K mg base d.N d.qual (defScope d.st) f cdv A' outer s H E ∨ X = (cxOf CX prog w K mg base d.N d.qual (defScope d.st) f cdv A' outer s H E).nox) (ow : PassesOwn (model X.prog X.w) X.A X.env X.xe) (tk : Takes X W) :
    Sok P T k d.N (defScope d.st) X W := by
  have vis : ∀ y, visC (defScope d.st) y = true → Vis (defScope d.st) y := fun y hy => by
    unfold visC at hy
    split at hy <;> first | cases hy | skip
    · rename_i z; exact .inl z
    · rename_i z; exact .inr (.inl z)
    · rename_i z; exact .inr (.inr z)
  have loc : ∀ y, locC (defScope d.st) y = true → Loc (defScope d.st) y := fun y hy => by
    unfold locC at hy
    split at hy <;> first | cases hy | skip
    · rename_i z; exact .inl z
    · rename_i z; exact .inr z
  have glo : ∀ y, gloC (defScope d.st) y = true → (defScope d.st).names.lookup y = some .globalImplicit := fun y hy => by
    unfold gloC at hy
    split at hy <;> first | cases hy | skip
    rename_i z
    exact z
  rcases hX with rfl | rfl
  all_goals exact ⟨⟨rfl, S.nd, vis, fun y hy => ⟨loc y hy, .inl rfl⟩, fun y hy => hy, fun y hy => glo y hy, rfl, hr, G.blt, A.fns, fun x hx => let ⟨v, u, d, h1, h2, h3, h4⟩ := G.glo x hx; ⟨v, u, d, h1, h2, h3, h4 w⟩, G.nsf, G.tfn, G.cls, G.rai, G.fld, A.mth, A.mkc⟩, rfl, fun _ => rfl, S.kind, ow, tk, rfl, rfl⟩
theorem def_ok {x : Str} {f : Addr} {fdd : FuncData} {d : Df} (G : Gok P T K mg) (A : AllOk P T prog w K mg base k) (F : L2.Fun K d.nam d.qual d.st f fdd) (hx : P.fn x = some d.fd) (hc : dfC T d = true) :
    FnOk prog w K mg base (L2.CX prog w) (2 * k + 1 + 1) f fdd d.ps (spOf ⟨K, w⟩ P (k + 1) x) := by
  unfold dfC at hc
  simp only [Bool.and_eq_true, decide_eq_true_eq] at hc
  obtain ⟨⟨⟨h1, h2⟩, h3⟩, h4⟩ := hc
  have S := C8.fnScope_by h1
  obtain ⟨oc, od, kV, doc, pm, an, cdv, ct, osl, rfl, lk, hcd⟩ := F.ex
  refine fn_of lk hcd S (fun vs H Q E h => sp_len (K := K) (w := w) hx h3 (k + 1) vs H Q E h) fun A' outer s H vs Q E hr hsp => ?_
  exact body_ok (f := f) (X := cxOf (L2.CX prog w) prog w K mg base d.N d.qual (defScope d.st) f cdv A' outer s H E) (sok_of (x := x) (fdd := PySem.W.fnOf d.nam d.qual (defArgs d.st) (defBody d.st) (defScope d.st) .none kV doc pm an cdv ct) G A S hr (.inl rfl) (passes_of rfl) (takes_of rfl rfl rfl rfl)) hx h2 h3 h4 hsp
/-- one from which no error goes out -/
theorem def_ok0 {x : Str} {f : Addr} {fdd : FuncData} {d : Df} (G : Gok P T K mg) (A : AllOk P T prog w K mg base k) (F : L2.Fun K d.nam d.qual d.st f fdd) (hx : P.fn x = some d.fd) (hc : dfC T d = true) :
    FnOk prog w K mg base CX0 (2 * k + 1 + 1) f fdd d.ps (fun vs H Q _ => spOf ⟨K, w⟩ P (k + 1) x vs H Q E0) := by
  unfold dfC at hc
  simp only [Bool.and_eq_true, decide_eq_true_eq] at hc
  obtain ⟨⟨⟨h1, h2⟩, h3⟩, h4⟩ := hc
  have S := C8.fnScope_by h1
  refine F.ok S (fun vs H Q E h => sp_len (K := K) (w := w) hx h3 (k + 1) vs H Q E0 h) fun cdv A' outer s H vs Q E hr hsp => ?_
  exact body_ok (f := f) (E := E0) (X := (cxOf CX0 prog w K mg base d.N d.qual (defScope d.st) f cdv A' outer s H E).nox) (sok_of (x := x) (fdd := fdd) G A S hr (.inr rfl) PassesOwn.never takesF) hx h2 h3 h4 hsp
end
end Z

set_option Elab.async false
set_option linter.all false
set_option maxRecDepth 100000
set_option maxHeartbeats 4000000
/-! End: a law by its code. -/
namespace Z
open PySem L2 PySem.Spec PyProof.Rows

theorem lookup_in {A : Type} {x : Str} {d : A} : ∀ {l : List (Str × A)}, l.lookup x = some d → x ∈ l.map (·.1)
  | [], h => by simp at h
  | (y, b) :: l, h => by
    rw [List.lookup_cons] at h
    rw [List.map_cons]
    cases e : x == y with
    | true => rw [eq_of_beq e]; exact List.mem_cons_self
    | false => rw [e] at h; exact List.mem_cons_of_mem _ (lookup_in h)
/-- one def as the top leaves it -/
structure DefAt (P : Pg) (T : Tab) (K : PySem.W.Frag) (mg : Str → Option Value) (x : Str) (d : Df) (f : Addr) (fd : FuncData) : Prop where
  fn : L2.Fun K d.nam d.qual d.st f fd
  mgf : mg x = some (.ref f)
  bnd : ∀ us : List Value, us.length = d.ps.length → bindArgs fd ⟨us, []⟩ = pure (d.ps.zip us)
  cod : P.fn x = some d.fd
  chk : dfC T d = true
/-- a def of a class -/
structure MetAt (P : Pg) (T : Tab) (K : PySem.W.Frag) (x : Str) (d : Df) (f : Addr) (fd : FuncData) : Prop where
  fn : L2.Fun K d.nam d.qual d.st f fd
  bnd : ∀ us : List Value, us.length = d.ps.length → bindArgs fd ⟨us, []⟩ = pure (d.ps.zip us)
  cod : P.fn x = some d.fd
  chk : dfC T d = true
structure Facts (P : Pg) (T : Tab) (K : PySem.W.Frag) (mg : Str → Option Value) (nm x : Str) : Prop where
  ok : Gok P T K mg
  fns : ∀ x ∈ T.fn, ∃ d f fd, DefAt P T K mg x d f fd
  mts : ∀ q ∈ T.ms, ∃ C d f fd, ClsAt K q.1 C ∧ Meth K C q.2.1 f ∧ MetAt P T K q.2.2 d f fd
  mks : ∀ q ∈ T.mc, ∃ C d f fd, ClsAt K q.1 C ∧ mg q.1 = some (.ref C) ∧ Mk K C f ∧ MetAt P T K q.2 d f fd
  law : ∃ d f fd, DefAt P T K mg nm d f fd ∧ d.ps = [x]
theorem zero_ok {P : Pg} {prog : Program} {w : World} {K : PySem.W.Frag} {mg : Str → Option Value} {base : Heap} {x : Str} {f : Addr} {fd : FuncData} {ps : List Str} : FnOk prog w K mg base (L2.CX prog w) (2 * 0) f fd ps (spOf ⟨K, w⟩ P 0 x) := by
  refine ⟨fun vs H Q E h => ?_, fun A outer s H args us vs Q E hr he hb hv hs => ?_⟩
  · obtain ⟨al, U, S, ds, sr, rs, h⟩ := h
    rcases h with ⟨_, _, e, _⟩ | ⟨_, _, _, e, _⟩ <;> cases e
  · obtain ⟨al, U, S, ds, sr, rs, h⟩ := hs
    rcases h with ⟨_, _, e, _⟩ | ⟨_, _, _, e, _⟩ <;> cases e
theorem all_ok {P : Pg} {T : Tab} {prog : Program} {w : World} {K : PySem.W.Frag} {mg : Str → Option Value} {base : Heap} {nm x0 : Str} (F : Facts P T K mg nm x0) : ∀ k, AllOk P T prog w K mg base k
  | 0 => ⟨fun x hx => by
      obtain ⟨d, f, fd, D⟩ := F.fns x hx
      exact ⟨f, fd, d.ps, zero_ok, D.mgf, D.fn.kp, .all D.bnd⟩, fun q hq => by
      obtain ⟨C, d, f, fd, hc, hm, D⟩ := F.mts q hq
      exact ⟨C, f, fd, d.ps, hc, hm, zero_ok, .all D.bnd⟩, fun q hq => by
      obtain ⟨C, d, f, fd, hc, hg, hm, D⟩ := F.mks q hq
      exact ⟨C, f, fd, d.ps, hc, hg, hm, zero_ok, .all D.bnd⟩⟩
  | k + 1 => ⟨fun x hx => by
      obtain ⟨d, f, fd, D⟩ := F.fns x hx
      exact ⟨f, fd, d.ps, def_ok F.ok (all_ok F k) D.fn D.cod D.chk, D.mgf, D.fn.kp, .all D.bnd⟩, fun q hq => by
      obtain ⟨C, d, f, fd, hc, hm, D⟩ := F.mts q hq
      exact ⟨C, f, fd, d.ps, hc, hm, def_ok F.ok (all_ok F k) D.fn D.cod D.chk, .all D.bnd⟩, fun q hq => by
      obtain ⟨C, d, f, fd, hc, hg, hm, D⟩ := F.mks q hq
      exact ⟨C, f, fd, d.ps, hc, hg, hm, def_ok F.ok (all_ok F k) D.fn D.cod D.chk, .all D.bnd⟩⟩
theorem law_walk {l : PySem.W.OpenLaw} {q : Program} {loose : List Str} {XP : (Str → Option Value) → Heap → Prop} {YP : World → Heap → Prop} {d : DefRec} {K : Params → PySem.W.Frag} (P : Pg) (T : Tab) (k : Nat) {x : Str} (hn : l.most = some 63) (hdf : d.params.defaults = [])
    (hk : k ≤ 30) (hd : d.name ∈ T.fn)
    (hY : ∀ (w : World) (h : Heap), YP w h → (K w.params).In h)
    (facts : ∀ (w : World) (mg : Str → Option Value) (h : Heap), (K w.params).In h → h.Ns mainGlobals mg → Facts P T (K w.params) mg d.name x)
    (law : ∀ ns : List Int, ns.length ≤ 63 → (∀ z ∈ ns, Builtin.Int.intBits z ≤ 1048576) → ∃ S', callF P k d.name [.lst (ns.map .int)] [] = .ok (.bl true, S')) :
    PySem.W.WalkO q loose XP YP l.row.toRowW d [] (fun f vs => PySem.call f vs) := by
  refine walk_ofB (n := 63) (k := 2 * k) (x := x) (CX := fun _ => CX0) (sp := fun w vs H Q _ => spOf ⟨K w.params, w⟩ P k d.name vs H Q E0) hn (by decide) hdf ⟨rfl, ?_, ?_⟩ hY (fun w mg fa h KX G hmg => ?_) (fun w H a ns hl hb hO hS => ?_) fun _ _ _ _ _ z => z
  · show callerA.depth + 3 * (2 * k) + 5 < recursionLimit
    have h1 : callerA.depth + 3 * 60 + 5 < recursionLimit := by decide
    omega
  · show callerA.units + 16 * (2 * k) + 200 < cLine
    have h1 : callerA.units + 16 * 60 + 200 < cLine := by decide
    omega
  · have F := facts w mg h KX G
    obtain ⟨dd, f, fd, D, hp⟩ := F.law
    have e := hmg.symm.trans D.mgf
    cases e
    refine ⟨fd, fun s u => .of_eq ?_, fun base _ _ => ?_⟩
    · have := D.bnd [u] (by rw [hp]; rfl)
      rw [hp] at this
      exact this
    · cases k with
      | zero =>
        obtain ⟨S', e⟩ := law [] (by decide) (fun _ h => nomatch h)
        cases e
      | succ k =>
        have := def_ok0 (prog := l.prog) (w := w) (base := base) F.ok (all_ok F k) D.fn D.cod D.chk
        rw [hp] at this
        exact this
  · obtain ⟨S', e⟩ := law ns hl hb
    have hz : sizeLine = 16777216 := by decide
    have liv : ∀ a ∈ ([] : List Addr), H a ≠ none := fun _ h => nomatch h
    refine ⟨fun _ => 0, [], [], [.lst (ns.map .int)], ⟨fun i j hi => absurd hi (Nat.not_lt_zero _), fun i hi => absurd hi (Nat.not_lt_zero _), liv, fun i o e => by simp at e⟩, ?_, .inl ⟨.bl true, S', e, fun v H' al' n' sr' r' => ?_⟩⟩
    · simp only [Reps, Rep]
      refine ⟨.ref a, [], rfl, ⟨a, ns.map V.int, rfl, ?_, by rw [List.length_map]; omega, ints_rep ns⟩, rfl⟩
      rcases hS with hS | hS
      · exact .inl ⟨hS, fun i hi => absurd hi (Nat.not_lt_zero _), fun h => nomatch h⟩
      · exact .inr hS
    · simpa only [Rep] using r'
end Z

set_option Elab.async false
set_option linter.all false
set_option maxRecDepth 100000
set_option maxHeartbeats 4000000
/-! Lib: to reckon what codes make. -/
namespace Z
open PySem L2 PySem.Spec PyProof.Rows

/-- it answers, and the answer is so -/
def Ok {A : Type} (r : R A) (Q : A → Prop) : Prop := ∃ a, r = .ok a ∧ Q a
@[simp] theorem Ok.ok_iff {A : Type} {a : A} {Q : A → Prop} : Ok (.ok a) Q ↔ Q a := ⟨fun ⟨_, e, h⟩ => by cases e; exact h, fun h => ⟨a, rfl, h⟩⟩
theorem Ok.bind {A B : Type} {r : R A} {f : A → R B} {P : A → Prop} {Q : B → Prop} (h : Ok r P) (k : ∀ a, P a → Ok (f a) Q) : Ok (r.bind f) Q := by
  obtain ⟨a, rfl, p⟩ := h
  exact k a p
theorem Ok.mono {A : Type} {r : R A} {P Q : A → Prop} (h : Ok r P) (k : ∀ a, P a → Q a) : Ok r Q := by
  obtain ⟨a, rfl, p⟩ := h
  exact ⟨a, rfl, k a p⟩
theorem callF_s {P : Pg} {k : Nat} {f : Str} {d : Fd} {xs : List D} {S : Store} (h : P.fn f = some d) : callF P (k + 1) f xs S = runF ⟨callF P k, P.glo, P.fuel⟩ d xs S := by
  simp only [callF, h]
/-- what is still to be shown behind a statement -/
def Nx (G : Ctx) (as : List Z.S) (Q : Fl × Env × Store → Prop) (p : Fl × Env × Store) : Prop := match p.1 with
  | .nx => Ok (evSs G as p.2.1 p.2.2) Q
  | _ => Q p
theorem nx {G : Ctx} {as : List Z.S} {Q : Fl × Env × Store → Prop} {ρ : Env} {S : Store} (h : Ok (evSs G as ρ S) Q) : Nx G as Q (.nx, ρ, S) := h
theorem nrt {G : Ctx} {as : List Z.S} {Q : Fl × Env × Store → Prop} {ρ : Env} {S : Store} {d : D} (h : Q (.rt d, ρ, S)) : Nx G as Q (.rt d, ρ, S) := h
theorem ss_nil {G : Ctx} {Q : Fl × Env × Store → Prop} {ρ : Env} {S : Store} (h : Q (.nx, ρ, S)) : Ok (evSs G [] ρ S) Q := by
  rw [evSs, Ok.ok_iff]
  exact h
theorem ss_cons {G : Ctx} {a : Z.S} {as : List Z.S} {Q : Fl × Env × Store → Prop} {ρ : Env} {S : Store} (h : Ok (evS G a ρ S) (Nx G as Q)) : Ok (evSs G (a :: as) ρ S) Q := by
  rw [evSs]
  refine Ok.bind (by obtain ⟨p, e, q⟩ := h; exact ⟨p, by rw [e]; rfl, q⟩ : Ok ((evS G a ρ S).hold (xS a) ρ) (Nx G as Q)) ?_
  rintro ⟨fl, ρ, S⟩ q
  cases fl with
  | nx => exact q
  | rt d => rw [Ok.ok_iff]; exact q
  | bk => rw [Ok.ok_iff]; exact q
  | ct => rw [Ok.ok_iff]; exact q
  | ex c => rw [Ok.ok_iff]; exact q
def Rt (Q : D × Store → Prop) (p : Fl × Env × Store) : Prop := match p.1 with
  | .rt v => Q (v, p.2.2)
  | .nx => Q (.non, p.2.2)
  | _ => False
theorem rt {Q : D × Store → Prop} {ρ : Env} {S : Store} {d : D} (h : Q (d, S)) : Rt Q (.rt d, ρ, S) := h
theorem eq_ok {A : Type} {r : R A} {v : A} (h : Ok r fun p => p = v) : r = .ok v := by
  obtain ⟨_, e, rfl⟩ := h
  exact e
theorem call_ok {P : Pg} {k : Nat} {f : Str} {d : Fd} {xs : List D} {S : Store} {Q : D × Store → Prop} {ρ : Env} (h : P.fn f = some d) (hl : xs.length = d.ps) (hr : entry d xs = ρ)
    (q : Ok (evSs ⟨callF P k, P.glo, P.fuel⟩ d.body ρ S) (Rt Q)) : Ok (callF P (k + 1) f xs S) Q := by
  rw [callF_s h, runF, if_pos hl, hr]
  refine Ok.bind q ?_
  rintro ⟨fl, ρ, S⟩ q
  cases fl with
  | nx => rw [Ok.ok_iff]; exact q
  | rt d => rw [Ok.ok_iff]; exact q
  | bk => exact q.elim
  | ct => exact q.elim
  | ex c => exact q.elim
theorem hold_ok' {b : Bool} {ρ : Env} {r : R (Fl × Env × Store)} {Q : Fl × Env × Store → Prop} (h : Ok r Q) : Ok (R.hold b ρ r) Q := by
  obtain ⟨p, e, q⟩ := h
  exact ⟨p, by rw [e]; rfl, q⟩
theorem hold_bind {A : Type} {b : Bool} {ρ : Env} {r : R (Fl × Env × Store)} {F : Fl × Env × Store → R A} {Q : A → Prop} (h : Ok (r.bind F) Q) : Ok ((R.hold b ρ r).bind F) Q := by
  cases r with
  | ok p => exact h
  | exc _ _ _ => obtain ⟨_, e, _⟩ := h; cases e
  | bad => obtain ⟨_, e, _⟩ := h; cases e
/-- it ends by an error -/
def Xc (r : R (D × Store)) (c : Str) (Q : Store → Prop) : Prop := ∃ o S', r = .exc c o S' ∧ Q S'
def If (G : Ctx) (a b : List Z.S) (ρ : Env) (Q : Fl × Env × Store → Prop) (p : D × Store) : Prop := ∃ k, p.1 = .bl k ∧ (k = true → Ok (evSs G a ρ p.2) Q) ∧ (k = false → Ok (evSs G b ρ p.2) Q)
theorem iff_ {G : Ctx} {a b : List Z.S} {Q : Fl × Env × Store → Prop} {ρ : Env} {S : Store} {k : Bool} (h1 : k = true → Ok (evSs G a ρ S) Q) (h2 : k = false → Ok (evSs G b ρ S) Q) : If G a b ρ Q (.bl k, S) := ⟨k, rfl, h1, h2⟩
theorem i_t {G : Ctx} {a b : List Z.S} {Q : Fl × Env × Store → Prop} {ρ : Env} {S : Store} (h : Ok (evSs G a ρ S) Q) : If G a b ρ Q (.bl true, S) := iff_ (fun _ => h) (fun e => nomatch e)
theorem i_f {G : Ctx} {a b : List Z.S} {Q : Fl × Env × Store → Prop} {ρ : Env} {S : Store} (h : Ok (evSs G b ρ S) Q) : If G a b ρ Q (.bl false, S) := iff_ (fun e => nomatch e) (fun _ => h)
theorem ite_ok {G : Ctx} {c : E} {a b : List Z.S} {Q : Fl × Env × Store → Prop} {ρ : Env} {S : Store} (h : Ok (evE G c ρ S) (If G a b ρ Q)) : Ok (evS G (.ite c a b) ρ S) Q := by
  rw [evS]
  refine Ok.bind h ?_
  rintro ⟨_, S⟩ ⟨k, rfl, h1, h2⟩
  cases k with
  | true => exact h1 rfl
  | false => exact h2 rfl
/-- a comprehension that leaves the store -/
theorem compL_flat {A : Type} {i : A → D} {g : A → List D} {f : D → Store → R (List D × Store)} {S : Store} : ∀ {xs : List A}, (∀ x ∈ xs, f (i x) S = .ok (g x, S)) → compL f (xs.map i) S = .ok (xs.flatMap g, S)
  | [], _ => rfl
  | x :: xs, h => by
    rw [List.map_cons, compL, h x (by simp), R.ok_bind, compL_flat fun y hy => h y (by simp [hy]), R.ok_bind, List.flatMap_cons]
theorem compL_map {A : Type} {i : A → D} {g : A → D} {f : D → Store → R (List D × Store)} {S : Store} {xs : List A} (h : ∀ x ∈ xs, f (i x) S = .ok ([g x], S)) : compL f (xs.map i) S = .ok (xs.map g, S) := by
  rw [compL_flat (g := fun x => [g x]) h]
  congr 2
  clear h
  induction xs with
  | nil => rfl
  | cons x xs ih => rw [List.flatMap_cons, ih]; rfl
theorem compL_filter {A : Type} {i : A → D} {g : A → D} {p : A → Bool} {f : D → Store → R (List D × Store)} {S : Store} {xs : List A} (h : ∀ x ∈ xs, f (i x) S = .ok (if p x then [g x] else [], S)) : compL f (xs.map i) S = .ok ((xs.filter p).map g, S) := by
  rw [compL_flat (g := fun x => if p x then [g x] else []) h]
  congr 2
  clear h
  induction xs with
  | nil => rfl
  | cons x xs ih =>
    rw [List.flatMap_cons, ih]
    cases hp : p x <;> simp [hp]
/-- a loop -/
theorem forL_aux {f : D → Env → Store → R (Fl × Env × Store)} (I : List D → Env → Store → Prop) (all : List D) (st : ∀ pre d post ρ S, all = pre ++ d :: post → I pre ρ S → Ok (f d ρ S) fun p => (p.1 = .nx ∨ p.1 = .ct) ∧ I (pre ++ [d]) p.2.1 p.2.2) :
    ∀ (ds pre : List D) {ρ : Env} {S : Store}, all = pre ++ ds → I pre ρ S → Ok (forL f ds ρ S) fun p => p.1 = .nx ∧ I all p.2.1 p.2.2
  | [], pre, ρ, S, e, h => by
    rw [forL, Ok.ok_iff]
    rw [List.append_nil] at e
    subst e
    exact ⟨rfl, h⟩
  | d :: ds, pre, ρ, S, e, h => by
    rw [forL]
    refine Ok.bind (st pre d ds ρ S e h) fun p ⟨e', q⟩ => ?_
    have := forL_aux (f := f) I all st ds (pre ++ [d]) (ρ := p.2.1) (S := p.2.2) (by rw [e]; simp) q
    rcases e' with e' | e' <;> rw [e'] <;> exact this
theorem forL_inv {f : D → Env → Store → R (Fl × Env × Store)} (I : List D → Env → Store → Prop) {all : List D} {ρ : Env} {S : Store} (h : I [] ρ S) (st : ∀ pre d post ρ S, all = pre ++ d :: post → I pre ρ S → Ok (f d ρ S) fun p => (p.1 = .nx ∨ p.1 = .ct) ∧ I (pre ++ [d]) p.2.1 p.2.2) :
    Ok (forL f all ρ S) fun p => p.1 = .nx ∧ I all p.2.1 p.2.2 := forL_aux I all st all [] rfl h
/-- the n-th object is a pack: a list of one number -/
def Pk (n : Nat) (S : Store) : Prop := ∃ N : Int, S[n]? = some (.lst [.int N])
/-- all but the n-th is as ahead, more may have come -/
structure Fr1 (n : Nat) (S S' : Store) : Prop where
  pk : Pk n S'
  len : S.length ≤ S'.length
  old : ∀ m, m ≠ n → m < S.length → S'[m]? = S[m]?
theorem Pk.lt {n : Nat} {S : Store} (h : Pk n S) : n < S.length := by
  obtain ⟨N, h⟩ := h
  exact (List.getElem?_eq_some_iff.mp h).1
theorem Fr1.refl {n : Nat} {S : Store} (h : Pk n S) : Fr1 n S S := ⟨h, Nat.le_refl _, fun _ _ _ => rfl⟩
theorem Fr1.trans {n : Nat} {S S' S'' : Store} (a : Fr1 n S S') (b : Fr1 n S' S'') : Fr1 n S S'' := ⟨b.pk, Nat.le_trans a.len b.len, fun m h1 h2 => (b.old m h1 (Nat.lt_of_lt_of_le h2 a.len)).trans (a.old m h1 h2)⟩
theorem Fr1.set {n : Nat} {S : Store} {N : Int} (h : Pk n S) : Fr1 n S (S.set n (.lst [.int N])) := by
  refine ⟨⟨N, ?_⟩, by simp, fun m h1 h2 => ?_⟩
  · rw [List.getElem?_set_self h.lt]
  · rw [List.getElem?_set_ne (Ne.symm h1)]
theorem Fr1.push {n : Nat} {S : Store} {o : O} (h : Pk n S) : Fr1 n S (S ++ [o]) := by
  refine ⟨?_, by simp, fun m h1 h2 => ?_⟩
  · obtain ⟨N, e⟩ := h
    exact ⟨N, by rw [List.getElem?_append_left (List.getElem?_eq_some_iff.mp e).1]; exact e⟩
  · rw [List.getElem?_append_left h2]
/-- a change of what came later -/
theorem Fr1.late {n m : Nat} {S S' : Store} {o : O} (h : Fr1 n S S') (hm : S.length ≤ m) (hn : n < S.length) : Fr1 n S (S'.set m o) := by
  refine ⟨?_, by simpa using h.len, fun j h1 h2 => ?_⟩
  · obtain ⟨N, e⟩ := h.pk
    exact ⟨N, by rw [List.getElem?_set_ne (by omega)]; exact e⟩
  · rw [List.getElem?_set_ne (by omega)]
    exact h.old j h1 h2

theorem rangeD_map : ∀ (n : Nat) (lo : Int), rangeD lo n = (List.range n).map fun (j : Nat) => D.int (lo + (j : Int))
  | 0, _ => rfl
  | n + 1, lo => by
    rw [rangeD, rangeD_map n, List.range_succ_eq_map, List.map_cons, List.map_map]
    congr 1
    · simp
    · apply List.map_congr_left
      intro j _
      show D.int _ = D.int _
      congr 1
      simp
      omega
theorem range0 (n : Nat) : rangeD 0 n = (List.range n).map fun (j : Nat) => D.int (j : Int) := by
  rw [rangeD_map]
  simp


section
variable {G : Ctx} {ρ : Env} {S : Store} {A B : Type}
theorem w_okb {a : A} {f : A → R B} : R.bind (.ok a) f = f a := id rfl
theorem w_bb {r : R A} {B' : Type} {f : A → R B} {g : B → R B'} : R.bind (R.bind r f) g = R.bind r fun a => R.bind (f a) g := R.bind_assoc r f g
theorem w_var {i : Nat} : evE G (.var i) ρ S = (match ρ[i]? with
    | some (some d) => .ok (d, S)
    | _ => .bad) := id rfl
theorem w_con {d : D} : evE G (.con d) ρ S = .ok (d, S) := id rfl
theorem w_glo {x : Str} : evE G (.glo x) ρ S = (match G.glo x with
    | some d => .ok (d, S)
    | none => .bad) := id rfl
theorem w_tup {es : List E} : evE G (.tup es) ρ S = (evEs G es ρ S).bind fun p => .ok (.tup p.1, p.2) := id rfl
theorem w_lst {m : Bool} {es : List E} : evE G (.lst m es) ρ S = (evEs G es ρ S).bind fun p => litD m p.1 p.2 := id rfl
theorem w_dct : evE G (.dct [] []) ρ S = .ok (.ref S.length, S ++ [.dct [] []]) := id rfl
theorem w_bin {o : Op} {a b : E} : evE G (.bin o a b) ρ S = (evE G a ρ S).bind fun p => (evE G b ρ p.2).bind fun q => binD o p.1 q.1 q.2 := id rfl
theorem w_not {a : E} : evE G (.not a) ρ S = (evE G a ρ S).bind fun p => match p.1 with
    | .bl b => .ok (.bl (!b), p.2)
    | _ => .bad := id rfl
theorem w_and {es : List E} : evE G (.and es) ρ S = evAnd G es ρ S := id rfl
theorem w_or {es : List E} : evE G (.or es) ρ S = evOr G es ρ S := id rfl
theorem w_cmp {o : Cm} {a b : E} : evE G (.cmp o a b) ρ S = (evE G a ρ S).bind fun p => (evE G b ρ p.2).bind fun q => cmpD o p.1 q.1 q.2 := id rfl
theorem w_chain {o o' : Cm} {a b c : E} : evE G (.chain o o' a b c) ρ S = (evE G a ρ S).bind fun p => (evE G b ρ p.2).bind fun q => (cmpD o p.1 q.1 q.2).bind fun r => match r.1 with
    | .bl true => (evE G c ρ r.2).bind fun s => cmpD o' q.1 s.1 s.2
    | .bl false => .ok (.bl false, r.2)
    | _ => .bad := id rfl
theorem w_ix {a i : E} : evE G (.ix a i) ρ S = (evE G a ρ S).bind fun p => (evE G i ρ p.2).bind fun q => ixD p.1 q.1 q.2 := id rfl
theorem w_call {f : Str} {es : List E} : evE G (.call f es) ρ S = (evEs G es ρ S).bind fun p => G.call f p.1 p.2 := id rfl
theorem w_fld {c f : Str} {a : E} : evE G (.fld c a f) ρ S = (evE G a ρ S).bind fun p => fldD c p.1 f p.2 := id rfl
theorem w_new {c f : Str} {es : List E} : evE G (.new c f es) ρ S = (evEs G es ρ S).bind fun p => (G.call f (.ref p.2.length :: p.1) (p.2 ++ [.ins c []])).bind (noneD p.2.length) := id rfl
theorem w_meth {c m f : Str} {o : E} {es : List E} : evE G (.meth c m f o es) ρ S = (evE G o ρ S).bind fun p => if hasM c m p.1 p.2 then (evEs G es ρ p.2).bind fun q => G.call f (p.1 :: q.1) q.2 else .bad := id rfl
theorem w_noneD {n : Nat} : noneD n (.non, S) = .ok (.ref n, S) := id rfl
theorem w_setf {c f : Str} {o e : E} : evS G (.setf c o f e) ρ S = (evE G e ρ S).bind fun p => (evE G o ρ p.2).bind fun q => (setFD c q.1 f p.1 q.2).bind fun s' => .ok (.nx, ρ, s') := id rfl
theorem w_blt {m : Bool} {b : Bt} {es : List E} : evE G (.blt m b es) ρ S = (evEs G es ρ S).bind fun p => bltD m b p.1 p.2 := id rfl
theorem w_mth {t : Mt} {o : E} {es : List E} : evE G (.mth t o es) ρ S = (evE G o ρ S).bind fun p => if recvOk t p.1 p.2 then (evEs G es ρ p.2).bind fun q => mthD t p.1 q.1 q.2 else .bad := id rfl
theorem w_comp {m : Bool} {own g : List Nat} {one : Bool} {k : IK} {its : List E} {c e : E} : evE G (.comp m own g one k its c e) ρ S = (evEs G its ρ S).bind fun p => (itrD k p.1 p.2).bind fun it =>
      (compI (fun d S => (bindG g one d (wipeE ρ own)).bind fun ρ' => (evE G c ρ' S).bind fun q => match q.1 with
        | .bl true => (evE G e ρ' q.2).bind fun r => .ok ([r.1], r.2)
        | .bl false => .ok ([], q.2)
        | _ => .bad) it p.2).bind fun q => litD m q.1 q.2 := id rfl
theorem w_sl {m l h : Bool} {a lo hi : E} : evE G (.sl m a l lo h hi) ρ S = (evE G a ρ S).bind fun p => (if l then (evE G lo ρ p.2).bind partD else .ok (none, p.2)).bind fun q =>
      (if h then (evE G hi ρ q.2).bind partD else .ok (none, q.2)).bind fun r => slD m p.1 q.1 r.1 r.2 := id rfl
theorem w_rev {a : E} : evE G (.rev a) ρ S = (evE G a ρ S).bind fun p => revD p.1 p.2 := id rfl
theorem w_neg {a : E} : evE G (.neg a) ρ S = (evE G a ρ S).bind fun p => match p.1 with
    | .int i => .ok (.int (-i), p.2)
    | _ => .bad := id rfl
theorem w_nil : evEs G [] ρ S = .ok ([], S) := id rfl
theorem w_cons {e : E} {es : List E} : evEs G (e :: es) ρ S = (evE G e ρ S).bind fun p => (evEs G es ρ p.2).bind fun q => .ok (p.1 :: q.1, q.2) := id rfl
theorem w_and1 {e : E} : evAnd G [e] ρ S = evE G e ρ S := id rfl
theorem w_and2 {e e' : E} {es : List E} : evAnd G (e :: e' :: es) ρ S = (evE G e ρ S).bind fun p => match p.1 with
    | .bl true => evAnd G (e' :: es) ρ p.2
    | .bl false => .ok (.bl false, p.2)
    | _ => .bad := id rfl
theorem w_or1 {e : E} : evOr G [e] ρ S = evE G e ρ S := id rfl
theorem w_or2 {e e' : E} {es : List E} : evOr G (e :: e' :: es) ρ S = (evE G e ρ S).bind fun p => match p.1 with
    | .bl true => .ok (.bl true, p.2)
    | .bl false => evOr G (e' :: es) ρ p.2
    | _ => .bad := id rfl
theorem w_asg {g : Tg} {e : E} : evS G (.asg g e) ρ S = (evE G e ρ S).bind fun p => (asg G g p.1 ρ p.2).bind fun q => .ok (.nx, q) := id rfl
theorem w_exp {e : E} : evS G (.exp e) ρ S = (evE G e ρ S).bind fun p => .ok (.nx, ρ, p.2) := id rfl
theorem w_ret {e : E} : evS G (.ret e) ρ S = (evE G e ρ S).bind fun p => .ok (.rt p.1, ρ, p.2) := id rfl
theorem w_anm {i : Nat} {d : D} : asg G (.nm i) d ρ S = .ok (ρ.set i (some d), S) := id rfl
theorem w_asub {o i : E} {d : D} : asg G (.sub o i) d ρ S = (evE G o ρ S).bind fun p => (evE G i ρ p.2).bind fun q => (subD p.1 q.1 d q.2).bind fun S' => .ok (ρ, S') := id rfl
theorem w_orv {a b : E} : evE G (.orv a b) ρ S = (evE G a ρ S).bind fun p => match p.1 with
    | .tup (d :: ds) => .ok (.tup (d :: ds), p.2)
    | .tup [] => (evE G b ρ p.2).bind tupOnly
    | .non => (evE G b ρ p.2).bind tupOnly
    | _ => .bad := id rfl
theorem w_dcn0 : evE G (.dcn [] []) ρ S = .ok (.ref S.length, S ++ [.dcn [] []]) := id rfl
theorem w_dcn1 {a b : E} : evE G (.dcn [a] [b]) ρ S = (evE G a ρ S).bind fun p => (evE G b ρ p.2).bind fun q => match keyN p.1 with
      | some _ => .ok (.ref q.2.length, q.2 ++ [.dcn [p.1] [q.1]])
      | none => .bad := id rfl
theorem w_whl {c : E} {b : List Z.S} : evS G (.whl c b) ρ S = whlN (evE G c) (evSs G b) G.fuel ρ S := id rfl
theorem w_callv {i : Nat} {es : List E} : evE G (.callv i es) ρ S = (match ρ[i]? with
    | some (some (.fn f)) => (evEs G es ρ S).bind fun p => G.call f p.1 p.2
    | _ => .bad) := id rfl
theorem w_wipe1 {i : Nat} : wipeE ρ [i] = ρ.set i none := id rfl
theorem w_wipe2 {i j : Nat} : wipeE ρ [i, j] = (ρ.set j none).set i none := id rfl
end
theorem fld_of {c f : Str} {S : Store} {m : Nat} {fs : List (Str × D)} {d : D} (h : S[m]? = some (.ins c fs)) (hl : fs.lookup f = some d) : fldD c (.ref m) f S = .ok (d, S) := by simp [fldD, insO, h, hl]
theorem hasM_of {c f : Str} {S : Store} {m : Nat} {fs : List (Str × D)} (h : S[m]? = some (.ins c fs)) (hl : fs.lookup f = none) : hasM c f (.ref m) S = true := by simp [hasM, insO, h, hl]
theorem setF_of {c f : Str} {S : Store} {m : Nat} {fs : List (Str × D)} {d : D} (h : S[m]? = some (.ins c fs)) (hl : fs.length < 1000) : setFD c (.ref m) f d S = .ok (S.set m (.ins c (putFD f d fs))) := by simp [setFD, insO, h, hl]
/-! ### rules -/
def R.of (o : Option D) (S : Store) : R (D × Store) := match o with
  | some d => .ok (d, S)
  | none => .bad
theorem of_some (d : D) (S : Store) : R.of (some d) S = .ok (d, S) := id rfl
section
variable {S : Store} {m : Bool} {i j : Int} {x y : List Char} {ds es : List D} {a b : D} {n : Nat} {G : Ctx} {ρ : Env} {d : D}
theorem litD_f : litD false ds S = .ok (.lst ds, S) := id rfl
theorem litD_t : litD true ds S = .ok (.ref S.length, S ++ [.lst ds]) := id rfl
theorem bin_add : binD .add (.int i) (.int j) S = .ok (.int (i + j), S) := id rfl
theorem bin_adds : binD .add (.str x) (.str y) S = if x.length + y.length ≤ sizeLine then .ok (.str (x ++ y), S) else .bad := id rfl
theorem bin_addl : binD .add (.lst ds) (.lst es) S = if ds.length + es.length ≤ sizeLine then .ok (.lst (ds ++ es), S) else .bad := id rfl
theorem bin_sub : binD .sub (.int i) (.int j) S = .ok (.int (i - j), S) := id rfl
theorem bin_mul : binD .mul (.int i) (.int j) S = if i.natAbs.log2 + j.natAbs.log2 < 100000000 then .ok (.int (i * j), S) else .bad := id rfl
theorem bin_mod : binD .mod (.int i) (.int j) S = if j = 0 then .bad else .ok (.int (i.fmod j), S) := id rfl
theorem bin_pow : binD .pow (.int i) (.int j) S = if 0 ≤ j ∧ j ≤ 1000000 ∧ i.natAbs < 2 ^ 64 then .ok (.int (i ^ j.toNat), S) else .bad := id rfl
theorem bin_shr : binD .shr (.int i) (.int j) S = if 0 ≤ j then .ok (.int (i / 2 ^ j.toNat), S) else .bad := id rfl
theorem bin_band : binD .band (.int i) (.int j) S = .ok (.int (Builtin.bitAnd i j), S) := id rfl
theorem cmp_eq : cmpD .eq a b S = if okD 60 (deref S a) ∧ okD 60 (deref S b) then .ok (.bl (eqD (deref S a) (deref S b)), S) else .bad := id rfl
theorem cmp_ne : cmpD .ne a b S = if okD 60 (deref S a) ∧ okD 60 (deref S b) then .ok (.bl (!eqD (deref S a) (deref S b)), S) else if dctS S a b then .ok (.bl true, S) else .bad := id rfl
theorem cmp_lti : cmpD .lt (.int i) (.int j) S = .ok (.bl (decide (i < j)), S) := id rfl
theorem cmp_lts : cmpD .lt (.str x) (.str y) S = .ok (.bl (ltS x y), S) := id rfl
theorem cmp_le : cmpD .le (.int i) (.int j) S = .ok (.bl (decide (i ≤ j)), S) := id rfl
theorem cmp_gt : cmpD .gt (.int i) (.int j) S = .ok (.bl (decide (j < i)), S) := id rfl
theorem cmp_ge : cmpD .ge (.int i) (.int j) S = .ok (.bl (decide (j ≤ i)), S) := id rfl
theorem cmp_none : cmpD .isNone a .non S = .ok (.bl (isNonD a), S) := id rfl
theorem cmp_nnone : cmpD .notNone a .non S = .ok (.bl (!isNonD a), S) := id rfl
theorem cmp_true {c k : Bool} : cmpD .isTrue (.bl c) (.bl k) S = .ok (.bl (c == k), S) := id rfl
theorem cmp_ntrue {c k : Bool} : cmpD .notTrue (.bl c) (.bl k) S = .ok (.bl (!(c == k)), S) := id rfl
def R.ofB (o : Option Bool) (S : Store) : R (D × Store) := match o with
  | some d => .ok (.bl d, S)
  | none => .bad
theorem ofB_some (d : Bool) (S : Store) : R.ofB (some d) S = .ok (.bl d, S) := id rfl
theorem cmp_in : cmpD .isIn a b S = R.ofB (memD S a b) S := by
  simp only [cmpD, R.ofB]
  all_goals (cases memD S a b <;> rfl)
theorem cmp_nin : cmpD .notIn a b S = R.ofB ((memD S a b).map fun k => !k) S := by
  simp only [cmpD, R.ofB]
  all_goals (cases memD S a b <;> rfl)
theorem nonD_non : isNonD .non = true := id rfl
theorem nonD_s : isNonD (.str x) = false := id rfl
theorem nonD_t : isNonD (.tup ds) = false := id rfl
theorem nonD_i : isNonD (.int i) = false := id rfl
theorem nonD_l : isNonD (.lst ds) = false := id rfl
theorem nonD_r : isNonD (.ref n) = false := id rfl
theorem nonD_b {k : Bool} : isNonD (.bl k) = false := id rfl
theorem nonD_x {x : Str} : isNonD (.exc x) = false := id rfl
theorem deref_s : deref S (.str x) = .str x := id rfl
theorem deref_t : deref S (.tup ds) = .tup ds := id rfl
theorem deref_l : deref S (.lst ds) = .lst ds := id rfl
theorem deref_i : deref S (.int i) = .int i := id rfl
theorem deref_b {k : Bool} : deref S (.bl k) = .bl k := id rfl
theorem deref_n : deref S .non = .non := id rfl
theorem ok_s : okD 60 (.str x) = true := id rfl
theorem ok_i : okD 60 (.int i) = true := id rfl
theorem ok_b {k : Bool} : okD 60 (.bl k) = true := id rfl
theorem ok_n : okD 60 .non = true := id rfl
theorem mem_s {c : Char} : memD S (.str [c]) (.str y) = some (decide (c ∈ y)) := id rfl
theorem mem_t : memD S a (.tup ds) = if flatD a ∧ ds.all flatD then some (inD a ds) else if okD 60 a ∧ ds.all (okD 59) then some (inD a ds) else none := id rfl
theorem mem_l : memD S a (.lst ds) = if flatD a ∧ ds.all flatD then some (inD a ds) else if okD 60 a ∧ ds.all (okD 59) then some (inD a ds) else none := id rfl
theorem flat_s : flatD (.str x) = true := id rfl
theorem flat_i : flatD (.int i) = true := id rfl
theorem flat_b {k : Bool} : flatD (.bl k) = true := id rfl
theorem flat_n : flatD .non = true := id rfl
theorem ix_s : ixD (.str x) (.int j) S = R.of ((atI x j).map fun c => .str [c]) S := by
  simp only [ixD, R.of]
  all_goals (cases atI x j <;> rfl)
theorem ix_t : ixD (.tup ds) (.int j) S = R.of (atI ds j) S := by
  simp only [ixD, R.of]
  all_goals (cases atI ds j <;> rfl)
theorem ix_l : ixD (.lst ds) (.int j) S = R.of (atI ds j) S := by
  simp only [ixD, R.of]
  all_goals (cases atI ds j <;> rfl)
theorem ix_r (h : S[n]? = some (.lst ds)) : ixD (.ref n) (.int j) S = R.of (atI ds j) S := by
  simp only [ixD, R.of, h]
  all_goals (cases atI ds j <;> rfl)
theorem items_t : items S (.tup ds) = some ds := id rfl
theorem items_l : items S (.lst ds) = some ds := id rfl
theorem len_s : bltD m .len [.str x] S = .ok (.int x.length, S) := id rfl
theorem len_t : bltD m .len [.tup ds] S = .ok (.int ds.length, S) := id rfl
theorem len_t2 {a b : D} : bltD m .len [.tup [a, b]] S = .ok (.int 2, S) := id rfl
theorem len_t4 {a b c d : D} : bltD m .len [.tup [a, b, c, d]] S = .ok (.int 4, S) := id rfl
theorem len_l : bltD m .len [.lst ds] S = .ok (.int ds.length, S) := id rfl
theorem len_r (h : S[n]? = some (.lst ds)) : bltD m .len [.ref n] S = .ok (.int ds.length, S) := by
  simp only [bltD, items, h]
theorem tuple_s : bltD m .tuple [.str x] S = .ok (.tup (x.map fun c => .str [c]), S) := id rfl
theorem tuple_t : bltD m .tuple [.tup ds] S = .ok (.tup ds, S) := id rfl
theorem tuple_l : bltD m .tuple [.lst ds] S = .ok (.tup ds, S) := id rfl
theorem tuple_r (h : S[n]? = some (.lst ds)) : bltD m .tuple [.ref n] S = .ok (.tup ds, S) := by
  simp only [bltD, items, h]
theorem list_s : bltD m .list [.str x] S = litD m (x.map fun c => .str [c]) S := id rfl
theorem list_t : bltD m .list [.tup ds] S = litD m ds S := id rfl
theorem list_l : bltD m .list [.lst ds] S = litD m ds S := id rfl
theorem blt_divmod : bltD m .divmod [.int i, .int j] S = if 0 < j ∧ j.natAbs < 1073741824 then .ok (.tup [.int (i / j), .int (i % j)], S) else .bad := id rfl
theorem blt_max : bltD m .max2 [.int i, .int j] S = .ok (.int (if j > i then j else i), S) := id rfl
theorem blt_min : bltD m .min2 [.int i, .int j] S = .ok (.int (if j < i then j else i), S) := id rfl
theorem allStr_map : ∀ xs : List (List Char), allStr (xs.map .str) = some xs
  | [] => rfl
  | x :: xs => by rw [List.map_cons, allStr, allStr_map xs]; rfl
theorem allBl_map : ∀ xs : List Bool, allBl (xs.map .bl) = some xs
  | [] => rfl
  | x :: xs => by rw [List.map_cons, allBl, allBl_map xs]; rfl
theorem blt_all {A : Type} {xs : List A} {p : A → Bool} : bltD m .all [.lst (xs.map fun x => .bl (p x))] S = .ok (.bl (xs.all p), S) := by
  have e : (xs.map fun x => D.bl (p x)) = (xs.map p).map .bl := by rw [List.map_map]; rfl
  simp only [bltD, items, e, allBl_map]
  congr 2
  rw [List.all_map]; rfl
theorem blt_any {A : Type} {xs : List A} {p : A → Bool} : bltD m .any [.lst (xs.map fun x => .bl (p x))] S = .ok (.bl (xs.any p), S) := by
  have e : (xs.map fun x => D.bl (p x)) = (xs.map p).map .bl := by rw [List.map_map]; rfl
  simp only [bltD, items, e, allBl_map]
  congr 2
  rw [List.any_map]; rfl
theorem blt_sorted {xs : List (List Char)} (h : xs.length < 64) : bltD m .sorted [.lst (xs.map .str)] S = litD m ((sortS xs).map .str) S := by
  simp only [bltD, items, allStr_map, h, if_true]
theorem ty_s {t : Ty} : bltD m (.isTy t) [.str x] S = .ok (.bl (subTy .str t), S) := id rfl
theorem ty_t {t : Ty} : bltD m (.isTy t) [.tup ds] S = .ok (.bl (subTy .tuple t), S) := id rfl
theorem ty_l {t : Ty} : bltD m (.isTy t) [.lst ds] S = .ok (.bl (subTy .list t), S) := id rfl
theorem ty_i {t : Ty} : bltD m (.isTy t) [.int i] S = .ok (.bl (subTy .int t), S) := id rfl
theorem ty_b {t : Ty} {k : Bool} : bltD m (.isTy t) [.bl k] S = .ok (.bl (subTy .bool t), S) := id rfl
theorem ty_n {t : Ty} : bltD m (.isTy t) [.non] S = .ok (.bl (subTy .non t), S) := id rfl
theorem rec_join : recvOk .join (.str x) S = true := id rfl
theorem rec_app (h : S[n]? = some (.lst ds)) : recvOk .append (.ref n) S = true := by
  simp only [recvOk, h]
theorem mth_app (h : S[n]? = some (.lst ds)) (l : ds.length < sizeLine) : mthD .append (.ref n) [d] S = .ok (.non, S.set n (.lst (ds ++ [d]))) := by
  simp only [mthD, appD, h, l, if_true]
theorem mth_join {xs : List (List Char)} (l : (xs.map List.length).sum + xs.length * x.length ≤ 16777216) : mthD .join (.str x) [.lst (xs.map .str)] S = .ok (.str (joinS x xs), S) := by
  simp only [mthD, joiD, items, allStr_map, l, if_true]
theorem rec_idx : recvOk .index (.str x) S = true := id rfl
theorem rec_idxT : recvOk .indexT (.tup ds) S = true := id rfl
theorem blt_dict {p : List D × List D} (h : dictD ds [] [] = some p) : bltD m .dict [.tup ds] S = .ok (.ref S.length, S ++ [.dct p.1 p.2]) := by
  show dicD [.tup ds] S = _
  simp only [dicD, h]
theorem tupOnly_t : tupOnly (.tup ds, S) = .ok (.tup ds, S) := id rfl
theorem blt_int1 {k : Bool} : bltD m .int [.bl k] S = .ok (.int (if k then 1 else 0), S) := id rfl
theorem mem_n {ks vs : List D} {k : NestedKey} (h : S[n]? = some (.dcn ks vs)) (h2 : keyN a = some k) : memD S a (.ref n) = some (inN k ks) := by
  simp only [memD, h, h2, Option.map_some]
theorem put_n {ks vs : List D} {k : NestedKey} (h : S[n]? = some (.dcn ks vs)) (h2 : keyN a = some k) (h3 : ks.length < sizeLine) : subD (.ref n) a d S = .ok (S.set n (.dcn (putN ks vs a k d).1 (putN ks vs a k d).2)) := by
  simp only [subD, h, h2]
  rw [if_pos h3]
theorem rec_idxLl : recvOk .indexL (.lst ds) S = true := id rfl
theorem it_r1i (h1 : -(2 ^ 61) ≤ j) (h2 : j ≤ 16777216) : itrD .rng1 [.int j] S = .ok (.sq ((List.range j.toNat).map fun (j : Nat) => .int (j : Int))) := by
  have hz : sizeLine = 16777216 := by decide
  simp only [itrD]
  rw [if_pos (by omega), range0]
theorem it_s : itrD .sq [.str x] S = .ok (.sq (x.map fun c => .str [c])) := id rfl
theorem it_en : itrD .enum [.tup ds] S = .ok (.sq (zipD (rangeD 0 ds.length) ds)) := id rfl
theorem it_t : itrD .sq [.tup ds] S = .ok (.sq ds) := id rfl
theorem it_l : itrD .sq [.lst ds] S = .ok (.sq ds) := id rfl
theorem compI_sq {f : D → Store → R (List D × Store)} : compI f (.sq ds) S = compL f ds S := id rfl
theorem forI_sq {f : D → Env → Store → R (Fl × Env × Store)} : forI f (.sq ds) ρ S = forL f ds ρ S := id rfl
theorem bind1 {v : Nat} : bindG [v] true d ρ = .ok (ρ.set v (some d)) := id rfl
theorem rev_s : revD (.str x) S = .ok (.str x.reverse, S) := id rfl
theorem rev_t : revD (.tup ds) S = .ok (.tup ds.reverse, S) := id rfl
theorem rev_l : revD (.lst ds) S = .ok (.lst ds.reverse, S) := id rfl
theorem blt_inrg : bltD m .inRg [.int i, .int j] S = .ok (.bl (decide (0 ≤ i ∧ i < j)), S) := id rfl
theorem blt_ninrg : bltD m .notInRg [.int i, .int j] S = .ok (.bl (!decide (0 ≤ i ∧ i < j)), S) := id rfl
theorem rec_upr : recvOk .upper (.str x) S = true := id rfl
theorem bind2 {v w : Nat} : bindG [v, w] false (.tup [a, b]) ρ = .ok ((ρ.set v (some a)).set w (some b)) := id rfl
theorem sl_t {lo hi : Option Int} : slD m (.tup ds) lo hi S = .ok (.tup (cut ds lo hi), S) := id rfl
theorem sl_s {lo hi : Option Int} : slD m (.str x) lo hi S = .ok (.str (cut x lo hi), S) := id rfl
theorem sl_l {lo hi : Option Int} : slD m (.lst ds) lo hi S = litD m (cut ds lo hi) S := id rfl
theorem part_i : partD (.int i, S) = .ok (some i, S) := id rfl
theorem eq_ss : eqD (.str x) (.str y) = decide (x = y) := by
  unfold eqD
  simp only [D.py, PyData.eqv]
  exact toS_beq x y
theorem eq_ii : eqD (.int i) (.int j) = decide (i = j) := by
  unfold eqD
  simp only [D.py, PyData.eqv]
  by_cases h : i = j <;> simp [h]
theorem eq_bb {k l : Bool} : eqD (.bl k) (.bl l) = (k == l) := by
  unfold eqD
  simp only [D.py, PyData.eqv]
theorem eq_tn : eqD (.tup []) (.tup []) = true := by
  unfold eqD
  simp only [D.py, D.pys, PyData.eqv, PyData.eqvAll]
theorem eq_tc : eqD (.tup (a :: ds)) (.tup (b :: es)) = (eqD a b && eqD (.tup ds) (.tup es)) := by
  unfold eqD
  simp only [D.py, D.pys, PyData.eqv, PyData.eqvAll]
theorem eq_tc0 : eqD (.tup (a :: ds)) (.tup []) = false := by
  unfold eqD
  simp only [D.py, D.pys, PyData.eqv, PyData.eqvAll]
theorem eq_t0c : eqD (.tup []) (.tup (a :: ds)) = false := by
  unfold eqD
  simp only [D.py, D.pys, PyData.eqv, PyData.eqvAll]
theorem in_nil : inD a [] = false := id rfl
theorem in_cons : inD a (b :: ds) = (eqD b a || inD a ds) := id rfl
theorem in_map {A : Type} {f : A → D} {xs : List A} : inD a (xs.map f) = xs.any fun x => eqD (f x) a := by
  unfold inD
  rw [List.any_map]; rfl
theorem in_strs {xs : List (List Char)} : inD (.str x) (xs.map .str) = decide (x ∈ xs) := by
  rw [in_map, Bool.eq_iff_iff]
  simp only [List.any_eq_true, eq_ss, decide_eq_true_eq]
  exact ⟨fun ⟨y, h, e⟩ => e ▸ h, fun h => ⟨x, h, rfl⟩⟩
theorem in_sgn {c : Char} {xs : List Char} : inD (.str [c]) (xs.map fun c => .str [c]) = decide (c ∈ xs) := by
  rw [in_map, Bool.eq_iff_iff]
  simp only [List.any_eq_true, eq_ss, decide_eq_true_eq, List.cons.injEq, and_true]
  exact ⟨fun ⟨y, h, e⟩ => e ▸ h, fun h => ⟨c, h, rfl⟩⟩
theorem flat_map {A : Type} {f : A → D} {xs : List A} : ((xs.map f).all flatD) = xs.all fun x => flatD (f x) := by
  rw [List.all_map]; rfl
theorem all_true {A : Type} {xs : List A} : (xs.all fun _ => true) = true := by simp
end
section
variable {S : Store} {i j : Int} {x y : List Char} {k l : Bool} {n : Nat}
theorem cmp_eq_ii : cmpD .eq (.int i) (.int j) S = .ok (.bl (decide (i = j)), S) := by
  rw [cmp_eq, deref_i, deref_i, if_pos ⟨rfl, rfl⟩, eq_ii]
theorem cmp_eq_ss : cmpD .eq (.str x) (.str y) S = .ok (.bl (decide (x = y)), S) := by
  rw [cmp_eq, deref_s, deref_s, if_pos ⟨rfl, rfl⟩, eq_ss]
theorem cmp_eq_bb : cmpD .eq (.bl k) (.bl l) S = .ok (.bl (k == l), S) := by
  rw [cmp_eq, deref_b, deref_b, if_pos ⟨rfl, rfl⟩, eq_bb]
theorem cmp_ne_ii : cmpD .ne (.int i) (.int j) S = .ok (.bl (!decide (i = j)), S) := by
  rw [cmp_ne, deref_i, deref_i, if_pos ⟨rfl, rfl⟩, eq_ii]
theorem cmp_ne_ss : cmpD .ne (.str x) (.str y) S = .ok (.bl (!decide (x = y)), S) := by
  rw [cmp_ne, deref_s, deref_s, if_pos ⟨rfl, rfl⟩, eq_ss]
theorem bin_shrn : binD .shr (.int i) (.int (n : Int)) S = .ok (.int (i / 2 ^ n), S) := by
  rw [bin_shr, if_pos (by omega), Int.toNat_natCast]
theorem mem_strs {xs : List (List Char)} : memD S (.str x) (.tup (xs.map .str)) = some (decide (x ∈ xs)) := by
  rw [mem_t, if_pos ⟨rfl, by rw [flat_map]; simp [flat_s]⟩, in_strs]
theorem mem_strl {xs : List (List Char)} : memD S (.str x) (.lst (xs.map .str)) = some (decide (x ∈ xs)) := by
  rw [mem_l, if_pos ⟨rfl, by rw [flat_map]; simp [flat_s]⟩, in_strs]
end
theorem atI_n {A : Type} {xs : List A} (k : Nat) : atI xs (k : Int) = xs[k]? := by
  unfold atI ixN
  rw [if_pos (by omega)]
  by_cases h : k < xs.length
  · rw [if_pos (by omega)]; simp
  · rw [if_neg (by omega)]
    simp
    omega
theorem atI_0 {A : Type} {x : A} {xs : List A} : atI (x :: xs) 0 = some x := by
  have := atI_n (xs := x :: xs) 0
  simpa using this
theorem atI_1 {A : Type} {x y : A} {xs : List A} : atI (x :: y :: xs) 1 = some y := by
  have := atI_n (xs := x :: y :: xs) 1
  simpa using this
theorem atI_2 {A : Type} {x y z : A} {xs : List A} : atI (x :: y :: z :: xs) 2 = some z := by
  have := atI_n (xs := x :: y :: z :: xs) 2
  simpa using this
theorem atI_3 {A : Type} {x y z u : A} {xs : List A} : atI (x :: y :: z :: u :: xs) 3 = some u := by
  have := atI_n (xs := x :: y :: z :: u :: xs) 3
  simpa using this
/-! while -/
theorem whl_go {c : Env → Store → R (D × Store)} {f : Env → Store → R (Fl × Env × Store)} {n : Nat} {ρ : Env} {S : Store} {Q : Fl × Env × Store → Prop} (h : Ok (c ρ S) fun p => p.1 = .bl true ∧ Ok (f ρ p.2) fun q => (q.1 = .nx ∨ q.1 = .ct) ∧ Ok (whlN c f n q.2.1 q.2.2) Q) : Ok (whlN c f (n + 1) ρ S) Q := by
  rw [whlN]
  refine Ok.bind h ?_
  rintro ⟨_, S1⟩ ⟨rfl, h⟩
  refine Ok.bind h ?_
  rintro ⟨fl, ρ', S2⟩ ⟨rfl | rfl, h⟩ <;> exact h
theorem whl_end {c : Env → Store → R (D × Store)} {f : Env → Store → R (Fl × Env × Store)} {n : Nat} {ρ : Env} {S : Store} {Q : Fl × Env × Store → Prop} (h : Ok (c ρ S) fun p => p.1 = .bl false ∧ Q (.nx, ρ, p.2)) : Ok (whlN c f (n + 1) ρ S) Q := by
  rw [whlN]
  refine Ok.bind h ?_
  rintro ⟨_, S1⟩ ⟨rfl, h⟩
  rw [Ok.ok_iff]
  exact h
mutual
theorem eqD_refl : ∀ (n : Nat) (d : D), okD n d = true → eqD d d = true
  | 0, d, h => by simp [okD] at h
  | n + 1, .non, h => by unfold eqD; simp only [D.py, PyData.eqv]
  | n + 1, .bl b, h => by rw [eq_bb]; simp
  | n + 1, .int b, h => by rw [eq_ii]; simp
  | n + 1, .str b, h => by rw [eq_ss]; simp
  | n + 1, .tup ds, h => by
    simp only [okD] at h
    have := eqDs_refl n ds h
    unfold eqD
    simpa only [D.py, PyData.eqv] using this
  | n + 1, .lst ds, h => by
    simp only [okD] at h
    have := eqDs_refl n ds h
    unfold eqD
    simpa only [D.py, PyData.eqv] using this
  | n + 1, .ref b, h => by simp [okD] at h
theorem eqDs_refl : ∀ (n : Nat) (ds : List D), ds.all (okD n) = true → PyData.eqvAll (D.pys ds) (D.pys ds) = true
  | n, [], _ => by simp only [D.pys, PyData.eqvAll]
  | n, d :: ds, h => by
    simp only [List.all_cons, Bool.and_eq_true] at h
    have := eqD_refl n d h.1
    unfold eqD at this
    simp only [D.pys, PyData.eqvAll, this, eqDs_refl n ds h.2, Bool.and_self]
end
end Z

set_option Elab.async false
set_option linter.all false
set_option maxRecDepth 100000
set_option maxHeartbeats 4000000
/-! the codes of the text's defs -/
namespace Z
open PySem L2 PySem.Spec PyProof.Rows
def c_sounds_of : Fd := ⟨1, 3, [.ret (.blt false .tuple [.comp false [1, 2] [1, 2] false .sq [.var 0] (.con (.bl true)) (.var 1)])]⟩
def c_fits : Fd := ⟨2, 2, [.ret (.or [.cmp .isNone (.var 0) (.con .non), .cmp .isIn (.var 1) (.var 0)])]⟩
def c_turned : Fd := ⟨1, 1, [.ret (.tup [.ix (.var 0) (.con (.int 0)), .ix (.var 0) (.con (.int 1)), .ix (.var 0) (.con (.int 3)), .ix (.var 0) (.con (.int 2))])]⟩
def c_rules_by_side : Fd := ⟨1, 2, [.ite (.cmp .eq (.ix (.var 0) (.con (.int 0))) (.con (.str ['l', 'e', 'f', 't']))) [.ret (.ix (.var 0) (.con (.int 1)))] [],
    .ret (.blt false .tuple [.comp false [1] [1] true .sq [.ix (.var 0) (.con (.int 1))] (.con (.bl true)) (.call "turned" [.var 1])])]⟩
def c_puts_in : Fd := ⟨1, 1, [.ret (.cmp .eq (.ix (.ix (.ix (.var 0) (.con (.int 1))) (.con (.int 0))) (.con (.int 0))) (.con (.str [])))]⟩
def c_first_standing : Fd := ⟨1, 2, [.ret (.blt false .tuple [.comp false [1] [1] true .sq [.call "rules_by_side" [.var 0]] (.con (.bl true)) (.tup [.call "fits" [.ix (.var 1) (.con (.int 2)), .glo "EDGE"], .con (.str [])])])]⟩
def c_put_in_step : Fd := ⟨3, 7, [.asg (.tp [.nm 5, .nm 6]) (.var 1),
    .asg (.nm 3) (.and [.var 5, .call "fits" [.ix (.var 0) (.con (.int 3)), .var 2]]),
    .asg (.nm 4) (.var 6),
    .ite (.var 3) [.asg (.nm 4) (.bin .add (.var 6) (.ix (.ix (.ix (.var 0) (.con (.int 1))) (.con (.int 0))) (.con (.int 1))))] [],
    .ret (.tup [.tup [.call "fits" [.ix (.var 0) (.con (.int 2)), .var 2], .var 2], .var 4, .var 3])]⟩
def c_change_step : Fd := ⟨3, 8, [.asg (.tp [.nm 6, .nm 7]) (.var 1),
    .ite (.cmp .eq (.var 7) (.con (.str []))) [.ret (.tup [.tup [.var 6, .var 2], .con (.str []), .con (.bl false)])] [],
    .asg (.nm 3) (.blt false .dict [.ix (.var 0) (.con (.int 1))]),
    .asg (.nm 4) (.and [.cmp .isIn (.var 7) (.var 3), .var 6, .call "fits" [.ix (.var 0) (.con (.int 3)), .var 2]]),
    .asg (.nm 5) (.var 7),
    .ite (.var 4) [.asg (.nm 5) (.ix (.var 3) (.var 7))] [],
    .ite (.cmp .eq (.ix (.var 0) (.con (.int 0))) (.con (.str ['o', 'n', 'c', 'e']))) [.asg (.nm 6) (.call "fits" [.ix (.var 0) (.con (.int 2)), .var 7])] [.ite (.cmp .ne (.var 5) (.con (.str []))) [.asg (.nm 6) (.call "fits" [.ix (.var 0) (.con (.int 2)), .var 5])] []],
    .ret (.tup [.tup [.var 6, .var 2], .var 5, .var 4])]⟩
def c_rule_step : Fd := ⟨3, 3, [.ite (.call "puts_in" [.var 0]) [.ret (.call "put_in_step" [.var 0, .var 1, .var 2])] [],
    .ret (.call "change_step" [.var 0, .var 1, .var 2])]⟩
def c_rule_reads : Fd := ⟨3, 8, [.asg (.nm 3) (.con (.str [])),
    .asg (.nm 4) (.con (.bl false)),
    .fo [5] true .sq [.var 2] [.asg (.tp [.nm 1, .nm 6, .nm 7]) (.call "rule_step" [.var 0, .var 1, .var 5]),
      .asg (.nm 3) (.bin .add (.var 3) (.var 6)),
      .asg (.nm 4) (.or [.var 4, .var 7])],
    .ret (.tup [.var 1, .var 3, .var 4])]⟩
def c_step_of : Fd := ⟨3, 10, [.asg (.nm 3) (.var 2),
    .asg (.nm 4) (.lst true []),
    .asg (.nm 5) (.lst true []),
    .fo [6, 7] false .zip2 [.call "rules_by_side" [.var 0], .var 1] [.asg (.tp [.nm 8, .nm 3, .nm 9]) (.call "rule_reads" [.var 6, .var 7, .var 3]),
      .exp (.mth .append (.var 4) [.var 8]),
      .exp (.mth .append (.var 5) [.var 9])],
    .ret (.tup [.blt false .tuple [.var 4], .var 3, .blt false .tuple [.var 5]])]⟩
def c_end_step : Fd := ⟨2, 8, [.asg (.nm 2) (.con (.str [])),
    .asg (.nm 3) (.lst true []),
    .fo [4, 5] false .zip2 [.call "rules_by_side" [.var 0], .var 1] [.asg (.tp [.nm 6, .nm 2, .nm 7]) (.call "rule_reads" [.var 4, .var 5, .bin .add (.var 2) (.glo "EDGE")]),
      .exp (.mth .append (.var 3) [.var 7])],
    .ret (.tup [.var 2, .blt false .tuple [.var 3]])]⟩
def c_read_on : Fd := ⟨3, 3, [.ret (.sl false (.call "step_of" [.var 0, .var 1, .var 2]) false .no true (.con (.int 2)))]⟩
def c_reached : Fd := ⟨2, 9, [.asg (.nm 2) (.lst true [.tup [.call "first_standing" [.var 1], .con (.str [])]]),
    .asg (.nm 3) (.dcn [.ix (.ix (.var 2) (.con (.int 0))) (.con (.int 0))] [.con (.bl true)]),
    .asg (.nm 4) (.con (.int 0)),
    .whl (.cmp .lt (.var 4) (.blt false .len [.var 2])) [.asg (.tp [.nm 6, .nm 7]) (.ix (.var 2) (.var 4)),
      .asg (.nm 4) (.bin .add (.var 4) (.con (.int 1))),
      .fo [5] true .sq [.call "sounds_of" [.var 0]] [.asg (.nm 8) (.ix (.call "read_on" [.var 1, .var 6, .var 5]) (.con (.int 0))),
      .ite (.cmp .notIn (.var 8) (.var 3)) [.asg (.sub (.var 3) (.var 8)) (.con (.bl true)),
      .exp (.mth .append (.var 2) [.tup [.var 8, .bin .add (.var 7) (.var 5)]])] []],
      .ite (.cmp .gt (.blt false .len [.var 2]) (.glo "MOST_STANDINGS")) [.rse] []],
    .ret (.var 2)]⟩
def c_makes_way : Fd := ⟨4, 4, [.ret (.meth "Pair" "word_with" "Pair.word_with" (.new "Pair" "Pair.__init__" [.var 0, .var 1, .var 2, .var 3]) [.tup [.con (.bl true), .con (.bl false)]])]⟩
def c_takes_from : Fd := ⟨4, 4, [.ret (.meth "Pair" "word_with" "Pair.word_with" (.new "Pair" "Pair.__init__" [.var 0, .var 1, .var 2, .var 3]) [.tup [.con (.bl false), .con (.bl true)]])]⟩
def c_law_mixed : Fd := ⟨1, 1, [.ret (.bin .mod (.bin .mul (.var 0) (.con (.int 915965594177219015054603514932384110774149374281672134266497))) (.bin .pow (.con (.int 10)) (.con (.int 60))))]⟩
def c_law_pack : Fd := ⟨2, 4, [.asg (.nm 2) (.con (.int 0)),
    .fo [3] true .sq [.lst false [.bin .add (.var 1) (.con (.int 1)), .var 1]] [.asg (.nm 2) (.bin .add (.bin .mul (.var 2) (.bin .pow (.con (.int 10)) (.con (.int 60)))) (.call "_law_mixed" [.ix (.bin .add (.sl false (.var 0) true (.var 3) true (.bin .add (.var 3) (.con (.int 1)))) (.lst false [.bin .add (.bin .mul (.con (.int 7919)) (.var 3)) (.con (.int 61))])) (.con (.int 0))]))],
    .ret (.lst true [.var 2])]⟩
def c_law_take : Fd := ⟨2, 3, [.asg (.tp [.sub (.var 0) (.con (.int 0)), .nm 2]) (.blt false .divmod [.ix (.var 0) (.con (.int 0)), .var 1]),
    .ret (.var 2)]⟩
def c_law_stock : Fd := ⟨1, 8, [.asg (.nm 1) (.ix (.lst false [.con (.str ['a']), .con (.str ['a', 'b']), .con (.str ['a', 'b']), .con (.str ['a', 'b', 'c']), .con (.str ['a', 'e', 'p', 't']), .con (.str ['m', 'n', 'z'])]) (.call "_law_take" [.var 0, .con (.int 6)])),
    .asg (.nm 2) (.lst false [.con (.str ['s', 't', 'o', 'p']), .con (.str ['s', 't', 'o', 'p', 's']), .con (.str ['s']), .con (.str ['o', 'p', 'e', 'n']), .con (.str ['a', 'b', 'c', 'd', 'e', 'f', 'g', 'h'])]),
    .asg (.nm 3) (.lst true []),
    .fo [4] true .sq [.var 1] [.asg (.nm 5) (.call "_law_take" [.var 0, .con (.int 32)]),
      .asg (.nm 6) (.blt false .sorted [.comp false [7] [7] true .rng1 [.con (.int 5)] (.cmp .eq (.bin .band (.bin .shr (.var 5) (.var 7)) (.con (.int 1))) (.con (.int 1))) (.ix (.var 2) (.var 7))]),
      .exp (.mth .append (.var 3) [.tup [.var 4, .blt false .tuple [.sl false (.var 6) false .no true (.con (.int 4))]]])],
    .ret (.blt false .tuple [.var 3])]⟩
def c_law_sounds : Fd := ⟨1, 3, [.ret (.mth .join (.con (.str [])) [.comp false [1, 2] [1, 2] false .sq [.var 0] (.con (.bl true)) (.var 1)])]⟩
def c_law_plain : Fd := ⟨2, 5, [.asg (.nm 2) (.ix (.var 1) (.call "_law_take" [.var 0, .blt false .len [.var 1]])),
    .asg (.nm 3) (.comp false [4] [4] true .sq [.bin .add (.blt false .list [.var 1]) (.lst false [.con (.str [])])] (.cmp .ne (.var 4) (.var 2)) (.var 4)),
    .ret (.tup [.ix (.lst false [.con (.str ['o', 'n', 'c', 'e']), .con (.str ['a', 'l', 'o', 'n', 'g'])]) (.call "_law_take" [.var 0, .con (.int 2)]), .tup [.tup [.var 2, .ix (.var 3) (.call "_law_take" [.var 0, .blt false .len [.var 3]])]], .con .non, .con .non])]⟩
def c_law : Fd := ⟨1, 11, [.asg (.nm 1) (.call "_law_pack" [.var 0, .con (.int 0)]),
    .asg (.nm 2) (.call "_law_stock" [.var 1]),
    .asg (.nm 3) (.call "_law_sounds" [.var 2]),
    .fo [4] true .rng1 [.con (.int 6)] [.asg (.nm 5) (.ix (.lst false [.con (.str ['l', 'e', 'f', 't']), .con (.str ['r', 'i', 'g', 'h', 't'])]) (.call "_law_take" [.var 1, .con (.int 2)])),
      .asg (.nm 6) (.call "_law_plain" [.var 1, .var 3]),
      .asg (.nm 7) (.call "_law_plain" [.var 1, .var 3]),
      .asg (.tp [.nm 9, .nm 10]) (.ix (.ix (.var 6) (.con (.int 1))) (.con (.int 0))),
      .asg (.nm 8) (.ix (.lst false [.con .non, .var 9]) (.blt false .int [.cmp .eq (.var 10) (.ix (.ix (.ix (.var 7) (.con (.int 1))) (.con (.int 0))) (.con (.int 0)))])),
      .ite (.cmp .ne (.call "makes_way" [.var 2, .var 5, .var 6, .var 7]) (.var 8)) [.ret (.con (.bl false))] [],
      .asg (.nm 8) (.ix (.lst false [.con .non, .var 9]) (.blt false .int [.cmp .eq (.var 9) (.ix (.ix (.ix (.var 7) (.con (.int 1))) (.con (.int 0))) (.con (.int 0)))])),
      .ite (.cmp .ne (.call "takes_from" [.var 2, .var 5, .var 6, .var 7]) (.var 8)) [.ret (.con (.bl false))] []],
    .ret (.con (.bl true))]⟩
def c_Pair__init : Fd := ⟨5, 5, [.setf "Pair" (.var 0) "sounds" (.call "sounds_of" [.var 1]),
    .setf "Pair" (.var 0) "side" (.var 2),
    .setf "Pair" (.var 0) "laid" (.tup [.var 2, .tup [.var 3, .var 4]]),
    .setf "Pair" (.var 0) "alone" (.tup [.var 2, .tup [.var 4]]),
    .exp (.call "reached" [.var 1, .fld "Pair" (.var 0) "laid"]),
    .exp (.call "reached" [.var 1, .fld "Pair" (.var 0) "alone"])]⟩
def c_Pair_first : Fd := ⟨1, 1, [.ret (.tup [.call "first_standing" [.fld "Pair" (.var 0) "laid"], .call "first_standing" [.fld "Pair" (.var 0) "alone"], .con (.bl false), .con (.bl false)])]⟩
def c_Pair_behind : Fd := ⟨3, 9, [.asg (.tp [.nm 3, .nm 4, .nm 5]) (.call "step_of" [.fld "Pair" (.var 0) "laid", .ix (.var 1) (.con (.int 0)), .var 2]),
    .asg (.tp [.nm 6, .nm 7, .nm 8]) (.call "step_of" [.fld "Pair" (.var 0) "alone", .ix (.var 1) (.con (.int 1)), .var 2]),
    .ret (.tup [.var 3, .var 6, .or [.ix (.var 1) (.con (.int 2)), .ix (.var 5) (.con (.int 1))], .or [.ix (.var 1) (.con (.int 3)), .ix (.var 8) (.con (.int 0))]])]⟩
def c_Pair_ended : Fd := ⟨2, 6, [.asg (.tp [.nm 2, .nm 3]) (.call "end_step" [.fld "Pair" (.var 0) "laid", .ix (.var 1) (.con (.int 0))]),
    .asg (.tp [.nm 4, .nm 5]) (.call "end_step" [.fld "Pair" (.var 0) "alone", .ix (.var 1) (.con (.int 1))]),
    .ret (.tup [.or [.ix (.var 1) (.con (.int 2)), .ix (.var 3) (.con (.int 1))], .or [.ix (.var 1) (.con (.int 3)), .ix (.var 5) (.con (.int 0))]])]⟩
def c_Pair_rows : Fd := ⟨1, 8, [.asg (.nm 1) (.lst true [.tup [.meth "Pair" "first" "Pair.first" (.var 0) [], .con (.str [])]]),
    .asg (.nm 2) (.dcn [.meth "Pair" "first" "Pair.first" (.var 0) []] [.con (.bl true)]),
    .asg (.nm 3) (.con (.int 0)),
    .whl (.cmp .lt (.var 3) (.blt false .len [.var 1])) [.asg (.tp [.nm 5, .nm 6]) (.ix (.var 1) (.var 3)),
      .asg (.nm 3) (.bin .add (.var 3) (.con (.int 1))),
      .fo [4] true .sq [.fld "Pair" (.var 0) "sounds"] [.asg (.nm 7) (.meth "Pair" "behind" "Pair.behind" (.var 0) [.var 5, .var 4]),
      .ite (.cmp .notIn (.var 7) (.var 2)) [.asg (.sub (.var 2) (.var 7)) (.con (.bl true)),
      .exp (.mth .append (.var 1) [.tup [.var 7, .bin .add (.var 6) (.var 4)]])] []]],
    .ret (.var 1)]⟩
def c_Pair_word_with : Fd := ⟨2, 4, [.fo [2, 3] false .sq [.meth "Pair" "rows" "Pair.rows" (.var 0) []] [.ite (.cmp .eq (.meth "Pair" "ended" "Pair.ended" (.var 0) [.var 2]) (.var 1)) [.ite (.cmp .eq (.fld "Pair" (.var 0) "side") (.con (.str ['r', 'i', 'g', 'h', 't']))) [.ret (.rev (.var 3))] [],
      .ret (.var 3)] []],
    .ret (.con .non)]⟩
def codes : List (Str × Fd) := [(("sounds_of" : Str), c_sounds_of), (("fits" : Str), c_fits), (("turned" : Str), c_turned), (("rules_by_side" : Str), c_rules_by_side), (("puts_in" : Str), c_puts_in), (("first_standing" : Str), c_first_standing), (("put_in_step" : Str), c_put_in_step), (("change_step" : Str), c_change_step), (("rule_step" : Str), c_rule_step), (("rule_reads" : Str), c_rule_reads), (("step_of" : Str), c_step_of), (("end_step" : Str), c_end_step), (("read_on" : Str), c_read_on), (("reached" : Str), c_reached), (("makes_way" : Str), c_makes_way), (("takes_from" : Str), c_takes_from), (("_law_mixed" : Str), c_law_mixed), (("_law_pack" : Str), c_law_pack), (("_law_take" : Str), c_law_take), (("_law_stock" : Str), c_law_stock), (("_law_sounds" : Str), c_law_sounds), (("_law_plain" : Str), c_law_plain), (("law" : Str), c_law), (("Pair.__init__" : Str), c_Pair__init), (("Pair.first" : Str), c_Pair_first), (("Pair.behind" : Str), c_Pair_behind), (("Pair.ended" : Str), c_Pair_ended), (("Pair.rows" : Str), c_Pair_rows), (("Pair.word_with" : Str), c_Pair_word_with)]
def consts : List (Str × D) := [("EDGE", .str ['#']), ("MOST_STANDINGS", .int 600)]
def pg : Pg := ⟨fun x => codes.lookup x, fun x => consts.lookup x, 100000⟩
def tab : Tab := ⟨[("dict" : Str), ("divmod" : Str), ("int" : Str), ("len" : Str), ("list" : Str), ("range" : Str), ("sorted" : Str), ("tuple" : Str), ("zip" : Str)], [("sounds_of" : Str), ("fits" : Str), ("turned" : Str), ("rules_by_side" : Str), ("puts_in" : Str), ("first_standing" : Str), ("put_in_step" : Str), ("change_step" : Str), ("rule_step" : Str), ("rule_reads" : Str), ("step_of" : Str), ("end_step" : Str), ("read_on" : Str), ("reached" : Str), ("makes_way" : Str), ("takes_from" : Str), ("_law_mixed" : Str), ("_law_pack" : Str), ("_law_take" : Str), ("_law_stock" : Str), ("_law_sounds" : Str), ("_law_plain" : Str), ("law" : Str)], [("EDGE" : Str), ("MOST_STANDINGS" : Str)], [], [], [(("Pair" : Str), ("alone" : Str)), (("Pair" : Str), ("laid" : Str)), (("Pair" : Str), ("side" : Str)), (("Pair" : Str), ("sounds" : Str))], [(("Pair" : Str), ("behind" : Str), ("Pair.behind" : Str)), (("Pair" : Str), ("ended" : Str), ("Pair.ended" : Str)), (("Pair" : Str), ("first" : Str), ("Pair.first" : Str)), (("Pair" : Str), ("rows" : Str), ("Pair.rows" : Str)), (("Pair" : Str), ("word_with" : Str), ("Pair.word_with" : Str))], [(("Pair" : Str), ("Pair.__init__" : Str))]⟩
def mkeys : List Str := ["Pair.__init__", "Pair.first", "Pair.behind", "Pair.ended", "Pair.rows", "Pair.word_with"]
def top (i : Nat) : Stmt := PySem.Challenge.pw_soundrules_k40_whole_plain_rules.main.body.getD i (.Pass ⟨0, 0, 0, 0⟩)
def df_c_sounds_of : Df := ⟨top 5, "sounds_of", "sounds_of", ["stock", "sound", "marks"], ["stock"], c_sounds_of⟩
theorem ck_c_sounds_of : dfC tab df_c_sounds_of = true := by decide +kernel
theorem fn_c_sounds_of : pg.fn "sounds_of" = some c_sounds_of := by kernel_rfl
def df_c_fits : Df := ⟨top 7, "fits", "fits", ["signs", "sign"], ["signs", "sign"], c_fits⟩
theorem ck_c_fits : dfC tab df_c_fits = true := by decide +kernel
theorem fn_c_fits : pg.fn "fits" = some c_fits := by kernel_rfl
def df_c_turned : Df := ⟨top 8, "turned", "turned", ["rule"], ["rule"], c_turned⟩
theorem ck_c_turned : dfC tab df_c_turned = true := by decide +kernel
theorem fn_c_turned : pg.fn "turned" = some c_turned := by kernel_rfl
def df_c_rules_by_side : Df := ⟨top 11, "rules_by_side", "rules_by_side", ["order", "rule"], ["order"], c_rules_by_side⟩
theorem ck_c_rules_by_side : dfC tab df_c_rules_by_side = true := by decide +kernel
theorem fn_c_rules_by_side : pg.fn "rules_by_side" = some c_rules_by_side := by kernel_rfl
def df_c_puts_in : Df := ⟨top 12, "puts_in", "puts_in", ["rule"], ["rule"], c_puts_in⟩
theorem ck_c_puts_in : dfC tab df_c_puts_in = true := by decide +kernel
theorem fn_c_puts_in : pg.fn "puts_in" = some c_puts_in := by kernel_rfl
def df_c_first_standing : Df := ⟨top 13, "first_standing", "first_standing", ["order", "rule"], ["order"], c_first_standing⟩
theorem ck_c_first_standing : dfC tab df_c_first_standing = true := by decide +kernel
theorem fn_c_first_standing : pg.fn "first_standing" = some c_first_standing := by kernel_rfl
def df_c_put_in_step : Df := ⟨top 14, "put_in_step", "put_in_step", ["rule", "standing", "sign", "acted", "put", "near", "held"], ["rule", "standing", "sign"], c_put_in_step⟩
theorem ck_c_put_in_step : dfC tab df_c_put_in_step = true := by decide +kernel
theorem fn_c_put_in_step : pg.fn "put_in_step" = some c_put_in_step := by kernel_rfl
def df_c_change_step : Df := ⟨top 15, "change_step", "change_step", ["rule", "standing", "sign", "known", "acted", "put", "near", "held"], ["rule", "standing", "sign"], c_change_step⟩
theorem ck_c_change_step : dfC tab df_c_change_step = true := by decide +kernel
theorem fn_c_change_step : pg.fn "change_step" = some c_change_step := by kernel_rfl
def df_c_rule_step : Df := ⟨top 16, "rule_step", "rule_step", ["rule", "standing", "sign"], ["rule", "standing", "sign"], c_rule_step⟩
theorem ck_c_rule_step : dfC tab df_c_rule_step = true := by decide +kernel
theorem fn_c_rule_step : pg.fn "rule_step" = some c_rule_step := by kernel_rfl
def df_c_rule_reads : Df := ⟨top 17, "rule_reads", "rule_reads", ["rule", "standing", "signs", "put", "acted", "sign", "more", "here"], ["rule", "standing", "signs"], c_rule_reads⟩
theorem ck_c_rule_reads : dfC tab df_c_rule_reads = true := by decide +kernel
theorem fn_c_rule_reads : pg.fn "rule_reads" = some c_rule_reads := by kernel_rfl
def df_c_step_of : Df := ⟨top 18, "step_of", "step_of", ["order", "standing", "sound", "put", "found", "acted", "rule", "here", "there", "does"], ["order", "standing", "sound"], c_step_of⟩
theorem ck_c_step_of : dfC tab df_c_step_of = true := by decide +kernel
theorem fn_c_step_of : pg.fn "step_of" = some c_step_of := by kernel_rfl
def df_c_end_step : Df := ⟨top 19, "end_step", "end_step", ["order", "standing", "put", "acted", "rule", "here", "there", "does"], ["order", "standing"], c_end_step⟩
theorem ck_c_end_step : dfC tab df_c_end_step = true := by decide +kernel
theorem fn_c_end_step : pg.fn "end_step" = some c_end_step := by kernel_rfl
def df_c_read_on : Df := ⟨top 20, "read_on", "read_on", ["order", "standing", "sound"], ["order", "standing", "sound"], c_read_on⟩
theorem ck_c_read_on : dfC tab df_c_read_on = true := by decide +kernel
theorem fn_c_read_on : pg.fn "read_on" = some c_read_on := by kernel_rfl
def df_c_reached : Df := ⟨top 21, "reached", "reached", ["stock", "order", "found", "known", "at", "sound", "standing", "word", "there"], ["stock", "order"], c_reached⟩
theorem ck_c_reached : dfC tab df_c_reached = true := by decide +kernel
theorem fn_c_reached : pg.fn "reached" = some c_reached := by kernel_rfl
def df_c_makes_way : Df := ⟨top 24, "makes_way", "makes_way", ["stock", "side", "rule", "other"], ["stock", "side", "rule", "other"], c_makes_way⟩
theorem ck_c_makes_way : dfC tab df_c_makes_way = true := by decide +kernel
theorem fn_c_makes_way : pg.fn "makes_way" = some c_makes_way := by kernel_rfl
def df_c_takes_from : Df := ⟨top 25, "takes_from", "takes_from", ["stock", "side", "rule", "other"], ["stock", "side", "rule", "other"], c_takes_from⟩
theorem ck_c_takes_from : dfC tab df_c_takes_from = true := by decide +kernel
theorem fn_c_takes_from : pg.fn "takes_from" = some c_takes_from := by kernel_rfl
def df_c_law_mixed : Df := ⟨top 27, "_law_mixed", "_law_mixed", ["_law_cell"], ["_law_cell"], c_law_mixed⟩
theorem ck_c_law_mixed : dfC tab df_c_law_mixed = true := by decide +kernel
theorem fn_c_law_mixed : pg.fn "_law_mixed" = some c_law_mixed := by kernel_rfl
def df_c_law_pack : Df := ⟨top 28, "_law_pack", "_law_pack", ["_law_script", "_law_k", "_law_found", "_law_at"], ["_law_script", "_law_k"], c_law_pack⟩
theorem ck_c_law_pack : dfC tab df_c_law_pack = true := by decide +kernel
theorem fn_c_law_pack : pg.fn "_law_pack" = some c_law_pack := by kernel_rfl
def df_c_law_take : Df := ⟨top 29, "_law_take", "_law_take", ["_law_pack_here", "_law_size", "_law_digit"], ["_law_pack_here", "_law_size"], c_law_take⟩
theorem ck_c_law_take : dfC tab df_c_law_take = true := by decide +kernel
theorem fn_c_law_take : pg.fn "_law_take" = some c_law_take := by kernel_rfl
def df_c_law_stock : Df := ⟨top 30, "_law_stock", "_law_stock", ["_law_pack_here", "_law_sounds_here", "_law_known", "_law_found", "_law_sound", "_law_number", "_law_marks", "_law_k"], ["_law_pack_here"], c_law_stock⟩
theorem ck_c_law_stock : dfC tab df_c_law_stock = true := by decide +kernel
theorem fn_c_law_stock : pg.fn "_law_stock" = some c_law_stock := by kernel_rfl
def df_c_law_sounds : Df := ⟨top 31, "_law_sounds", "_law_sounds", ["_law_stock_here", "_law_sound", "_law_marks"], ["_law_stock_here"], c_law_sounds⟩
theorem ck_c_law_sounds : dfC tab df_c_law_sounds = true := by decide +kernel
theorem fn_c_law_sounds : pg.fn "_law_sounds" = some c_law_sounds := by kernel_rfl
def df_c_law_plain : Df := ⟨top 32, "_law_plain", "_law_plain", ["_law_pack_here", "_law_sounds_here", "_law_one", "_law_others", "_law_sound"], ["_law_pack_here", "_law_sounds_here"], c_law_plain⟩
theorem ck_c_law_plain : dfC tab df_c_law_plain = true := by decide +kernel
theorem fn_c_law_plain : pg.fn "_law_plain" = some c_law_plain := by kernel_rfl
def df_c_law : Df := ⟨top 33, "law", "law", ["_law_script", "_law_pack_here", "_law_stock_here", "_law_sounds_here", "_law_turn", "_law_side", "_law_rule", "_law_other", "_law_due", "_law_first", "_law_second"], ["_law_script"], c_law⟩
theorem ck_c_law : dfC tab df_c_law = true := by decide +kernel
theorem fn_c_law : pg.fn "law" = some c_law := by kernel_rfl
def df_c_Pair__init : Df := ⟨inClass (top 23) 0, "__init__", "Pair.__init__", ["self", "stock", "side", "rule", "other"], ["self", "stock", "side", "rule", "other"], c_Pair__init⟩
theorem ck_c_Pair__init : dfC tab df_c_Pair__init = true := by decide +kernel
theorem fn_c_Pair__init : pg.fn "Pair.__init__" = some c_Pair__init := by kernel_rfl
def df_c_Pair_first : Df := ⟨inClass (top 23) 1, "first", "Pair.first", ["self"], ["self"], c_Pair_first⟩
theorem ck_c_Pair_first : dfC tab df_c_Pair_first = true := by decide +kernel
theorem fn_c_Pair_first : pg.fn "Pair.first" = some c_Pair_first := by kernel_rfl
def df_c_Pair_behind : Df := ⟨inClass (top 23) 2, "behind", "Pair.behind", ["self", "row", "sound", "first", "put", "acted", "second", "more", "alone"], ["self", "row", "sound"], c_Pair_behind⟩
theorem ck_c_Pair_behind : dfC tab df_c_Pair_behind = true := by decide +kernel
theorem fn_c_Pair_behind : pg.fn "Pair.behind" = some c_Pair_behind := by kernel_rfl
def df_c_Pair_ended : Df := ⟨inClass (top 23) 3, "ended", "Pair.ended", ["self", "row", "put", "acted", "more", "alone"], ["self", "row"], c_Pair_ended⟩
theorem ck_c_Pair_ended : dfC tab df_c_Pair_ended = true := by decide +kernel
theorem fn_c_Pair_ended : pg.fn "Pair.ended" = some c_Pair_ended := by kernel_rfl
def df_c_Pair_rows : Df := ⟨inClass (top 23) 4, "rows", "Pair.rows", ["self", "found", "known", "at", "sound", "row", "word", "there"], ["self"], c_Pair_rows⟩
theorem ck_c_Pair_rows : dfC tab df_c_Pair_rows = true := by decide +kernel
theorem fn_c_Pair_rows : pg.fn "Pair.rows" = some c_Pair_rows := by kernel_rfl
def df_c_Pair_word_with : Df := ⟨inClass (top 23) 5, "word_with", "Pair.word_with", ["self", "wished", "row", "word"], ["self", "wished"], c_Pair_word_with⟩
theorem ck_c_Pair_word_with : dfC tab df_c_Pair_word_with = true := by decide +kernel
theorem fn_c_Pair_word_with : pg.fn "Pair.word_with" = some c_Pair_word_with := by kernel_rfl
end Z

set_option Elab.async false
set_option linter.all false
set_option maxRecDepth 100000
set_option maxHeartbeats 4000000
namespace Z
open PySem L2 PySem.Spec PyProof.Rows
abbrev Stk := List (Char × List (List Char))
def sD (c : Char) : D := .str [c]
def sndD (p : Char × List (List Char)) : D := .tup [sD p.1, .tup (p.2.map .str)]
def stockD (st : Stk) : D := .tup (st.map sndD)
theorem sizeL : sizeLine = 16777216 := by decide

theorem e_take {k n : Nat} {S : Store} {m : Int} (h : Pk n S) (h1 : 0 < m) (h2 : m < 1073741824) : Ok (callF pg (k + 1) "_law_take" [.ref n, .int m] S) fun p => ∃ r : Nat, (r : Int) < m ∧ p.1 = .int r ∧ Fr1 n S p.2 := by
  have hp := h
  obtain ⟨N, e⟩ := h
  have h3 : m.natAbs < 1073741824 := by omega
  rw [callF_s fn_c_law_take]
  simp [c_law_take, len_t, R.ok_bind, R.hold_ok, R.bad_bind, evE, evEs, evAnd, evOr, evS, evSs, asg, asgs, runF, entry, wipeE, Ok.ok_iff, subTy, R.bind_assoc, forL, asgs, of_some, litD_f, litD_t, bin_add, bin_sub, bin_band, cmp_lti, cmp_lts, cmp_le, cmp_gt, cmp_ge, cmp_none, cmp_nnone, cmp_true, cmp_ntrue, ofB_some, cmp_in, cmp_nin, nonD_non, nonD_s, nonD_t, nonD_i, nonD_l, nonD_r, nonD_b, nonD_x, deref_s, deref_t, deref_l, deref_i, deref_b, deref_n, ok_s, ok_i, ok_b, ok_n, mem_s, flat_s, flat_i, flat_b, flat_n, ix_s, ix_t, ix_l, items_t, items_l, len_s, len_t2, len_t4, len_l, tuple_s, tuple_t, tuple_l, list_s, list_t, list_l, blt_max, blt_min, blt_all, blt_any, ty_s, ty_t, ty_l, ty_i, ty_b, ty_n, rec_join, rec_idx, rec_idxT, tupOnly_t, blt_int1, rec_idxLl, it_s, it_en, it_t, it_l, compI_sq, forI_sq, bind1, rev_s, rev_t, rev_l, blt_inrg, blt_ninrg, rec_upr, bind2, sl_t, sl_s, sl_l, part_i, eq_ss, eq_ii, eq_bb, eq_tn, eq_tc, eq_tc0, eq_t0c, in_nil, in_cons, in_strs, in_sgn, flat_map, all_true, cmp_eq_ii, cmp_eq_ss, cmp_eq_bb, cmp_ne_ii, cmp_ne_ss, bin_shrn, mem_strs, mem_strl, atI_0, atI_1, atI_2, atI_3, blt_divmod, ix_r e, h1, h3, subD, e, ixN]
  have := Int.emod_nonneg N (show m ≠ 0 by omega)
  have := Int.emod_lt_of_pos N h1
  exact ⟨(N % m).toNat, by omega, by omega, Fr1.set hp⟩
theorem e_sounds_of {k : Nat} {S : Store} {st : Stk} : callF pg (k + 1) "sounds_of" [stockD st] S = .ok (.tup (st.map fun p => sD p.1), S) := by
  rw [callF_s fn_c_sounds_of]
  simp [c_sounds_of, len_t, R.ok_bind, R.hold_ok, R.bad_bind, evE, evEs, evAnd, evOr, evS, evSs, asg, asgs, runF, entry, wipeE, Ok.ok_iff, subTy, R.bind_assoc, forL, asgs, of_some, litD_f, litD_t, bin_add, bin_sub, bin_band, cmp_lti, cmp_lts, cmp_le, cmp_gt, cmp_ge, cmp_none, cmp_nnone, cmp_true, cmp_ntrue, ofB_some, cmp_in, cmp_nin, nonD_non, nonD_s, nonD_t, nonD_i, nonD_l, nonD_r, nonD_b, nonD_x, deref_s, deref_t, deref_l, deref_i, deref_b, deref_n, ok_s, ok_i, ok_b, ok_n, mem_s, flat_s, flat_i, flat_b, flat_n, ix_s, ix_t, ix_l, items_t, items_l, len_s, len_t2, len_t4, len_l, tuple_s, tuple_t, tuple_l, list_s, list_t, list_l, blt_max, blt_min, blt_all, blt_any, ty_s, ty_t, ty_l, ty_i, ty_b, ty_n, rec_join, rec_idx, rec_idxT, tupOnly_t, blt_int1, rec_idxLl, it_s, it_en, it_t, it_l, compI_sq, forI_sq, bind1, rev_s, rev_t, rev_l, blt_inrg, blt_ninrg, rec_upr, bind2, sl_t, sl_s, sl_l, part_i, eq_ss, eq_ii, eq_bb, eq_tn, eq_tc, eq_tc0, eq_t0c, in_nil, in_cons, in_strs, in_sgn, flat_map, all_true, cmp_eq_ii, cmp_eq_ss, cmp_eq_bb, cmp_ne_ii, cmp_ne_ss, bin_shrn, mem_strs, mem_strl, atI_0, atI_1, atI_2, atI_3, stockD]
  rw [compL_map (g := fun p => sD p.1) fun p hp => by simp [sndD, len_t, R.ok_bind, R.hold_ok, R.bad_bind, evE, evEs, evAnd, evOr, evS, evSs, asg, asgs, runF, entry, wipeE, Ok.ok_iff, subTy, R.bind_assoc, forL, asgs, of_some, litD_f, litD_t, bin_add, bin_sub, bin_band, cmp_lti, cmp_lts, cmp_le, cmp_gt, cmp_ge, cmp_none, cmp_nnone, cmp_true, cmp_ntrue, ofB_some, cmp_in, cmp_nin, nonD_non, nonD_s, nonD_t, nonD_i, nonD_l, nonD_r, nonD_b, nonD_x, deref_s, deref_t, deref_l, deref_i, deref_b, deref_n, ok_s, ok_i, ok_b, ok_n, mem_s, flat_s, flat_i, flat_b, flat_n, ix_s, ix_t, ix_l, items_t, items_l, len_s, len_t2, len_t4, len_l, tuple_s, tuple_t, tuple_l, list_s, list_t, list_l, blt_max, blt_min, blt_all, blt_any, ty_s, ty_t, ty_l, ty_i, ty_b, ty_n, rec_join, rec_idx, rec_idxT, tupOnly_t, blt_int1, rec_idxLl, it_s, it_en, it_t, it_l, compI_sq, forI_sq, bind1, rev_s, rev_t, rev_l, blt_inrg, blt_ninrg, rec_upr, bind2, sl_t, sl_s, sl_l, part_i, eq_ss, eq_ii, eq_bb, eq_tn, eq_tc, eq_tc0, eq_t0c, in_nil, in_cons, in_strs, in_sgn, flat_map, all_true, cmp_eq_ii, cmp_eq_ss, cmp_eq_bb, cmp_ne_ii, cmp_ne_ss, bin_shrn, mem_strs, mem_strl, atI_0, atI_1, atI_2, atI_3]]
  simp [len_t, R.ok_bind, R.hold_ok, R.bad_bind, evE, evEs, evAnd, evOr, evS, evSs, asg, asgs, runF, entry, wipeE, Ok.ok_iff, subTy, R.bind_assoc, forL, asgs, of_some, litD_f, litD_t, bin_add, bin_sub, bin_band, cmp_lti, cmp_lts, cmp_le, cmp_gt, cmp_ge, cmp_none, cmp_nnone, cmp_true, cmp_ntrue, ofB_some, cmp_in, cmp_nin, nonD_non, nonD_s, nonD_t, nonD_i, nonD_l, nonD_r, nonD_b, nonD_x, deref_s, deref_t, deref_l, deref_i, deref_b, deref_n, ok_s, ok_i, ok_b, ok_n, mem_s, flat_s, flat_i, flat_b, flat_n, ix_s, ix_t, ix_l, items_t, items_l, len_s, len_t2, len_t4, len_l, tuple_s, tuple_t, tuple_l, list_s, list_t, list_l, blt_max, blt_min, blt_all, blt_any, ty_s, ty_t, ty_l, ty_i, ty_b, ty_n, rec_join, rec_idx, rec_idxT, tupOnly_t, blt_int1, rec_idxLl, it_s, it_en, it_t, it_l, compI_sq, forI_sq, bind1, rev_s, rev_t, rev_l, blt_inrg, blt_ninrg, rec_upr, bind2, sl_t, sl_s, sl_l, part_i, eq_ss, eq_ii, eq_bb, eq_tn, eq_tc, eq_tc0, eq_t0c, in_nil, in_cons, in_strs, in_sgn, flat_map, all_true, cmp_eq_ii, cmp_eq_ss, cmp_eq_bb, cmp_ne_ii, cmp_ne_ss, bin_shrn, mem_strs, mem_strl, atI_0, atI_1, atI_2, atI_3]
def risB (xs : List (List Char)) : Bool := (List.range (xs.length - 1)).all fun k => ltS (xs.getD k []) (xs.getD (k + 1) [])
theorem fmod_pos {a b : Int} (h : 0 < b) : 0 ≤ a.fmod b ∧ a.fmod b < b := by
  rw [Int.fmod_eq_emod_of_nonneg a (by omega)]
  exact ⟨Int.emod_nonneg _ (by omega), Int.emod_lt_of_pos _ h⟩
def T60 : Int := 1000000000000000000000000000000000000000000000000000000000000
theorem T60_log : T60.natAbs.log2 = 199 := by decide +kernel
theorem T60_pos : 0 < T60 := by decide +kernel
theorem pow60 {S : Store} : binD .pow (.int 10) (.int 60) S = .ok (.int T60, S) := by
  rw [bin_pow, if_pos (by decide +kernel)]
  have : (10 : Int) ^ (60 : Int).toNat = T60 := by decide +kernel
  rw [this]
theorem mul_ok {S : Store} {a b : Int} (h1 : a.natAbs.log2 ≤ 10000000) (h2 : b.natAbs.log2 ≤ 10000000) : binD .mul (.int a) (.int b) S = .ok (.int (a * b), S) := by
  rw [bin_mul, if_pos (by omega)]
theorem log_lt {a b : Int} (h0 : 0 ≤ a) (h : a < b) : a.natAbs.log2 ≤ b.natAbs.log2 := by
  by_cases ha : a.natAbs = 0
  · rw [ha]
    have : Nat.log2 0 = 0 := by decide +kernel
    omega
  · rw [Nat.le_log2 (by omega)]
    have := Nat.log2_self_le ha
    omega
theorem e_mixed {k : Nat} {S : Store} {z : Int} (h : z.natAbs.log2 ≤ 1048576) : Ok (callF pg (k + 1) "_law_mixed" [.int z] S) fun p => ∃ r : Int, 0 ≤ r ∧ r < T60 ∧ p.1 = .int r ∧ p.2 = S := by
  rw [callF_s fn_c_law_mixed]
  have hb : (915965594177219015054603514932384110774149374281672134266497 : Int).natAbs.log2 ≤ 10000000 := by decide +kernel
  have hn : T60 ≠ 0 := by have := T60_pos; omega
  simp only [c_law_mixed, len_t, R.ok_bind, R.hold_ok, R.bad_bind, evE, evEs, evAnd, evOr, evS, evSs, asg, asgs, runF, entry, wipeE, Ok.ok_iff, subTy, R.bind_assoc, forL, asgs, of_some, litD_f, litD_t, bin_add, bin_sub, bin_band, cmp_lti, cmp_lts, cmp_le, cmp_gt, cmp_ge, cmp_none, cmp_nnone, cmp_true, cmp_ntrue, ofB_some, cmp_in, cmp_nin, nonD_non, nonD_s, nonD_t, nonD_i, nonD_l, nonD_r, nonD_b, nonD_x, deref_s, deref_t, deref_l, deref_i, deref_b, deref_n, ok_s, ok_i, ok_b, ok_n, mem_s, flat_s, flat_i, flat_b, flat_n, ix_s, ix_t, ix_l, items_t, items_l, len_s, len_t2, len_t4, len_l, tuple_s, tuple_t, tuple_l, list_s, list_t, list_l, blt_max, blt_min, blt_all, blt_any, ty_s, ty_t, ty_l, ty_i, ty_b, ty_n, rec_join, rec_idx, rec_idxT, tupOnly_t, blt_int1, rec_idxLl, it_s, it_en, it_t, it_l, compI_sq, forI_sq, bind1, rev_s, rev_t, rev_l, blt_inrg, blt_ninrg, rec_upr, bind2, sl_t, sl_s, sl_l, part_i, eq_ss, eq_ii, eq_bb, eq_tn, eq_tc, eq_tc0, eq_t0c, in_nil, in_cons, in_strs, in_sgn, flat_map, all_true, cmp_eq_ii, cmp_eq_ss, cmp_eq_bb, cmp_ne_ii, cmp_ne_ss, bin_shrn, mem_strs, mem_strl, atI_0, atI_1, atI_2, atI_3, List.map, List.getElem?_cons_zero, List.length_cons, List.length_nil, Nat.zero_add, if_true, List.cons_append, mul_ok (show z.natAbs.log2 ≤ 10000000 by omega) hb, pow60, bin_mod, if_neg hn]
  have := fmod_pos (a := z * 915965594177219015054603514932384110774149374281672134266497) T60_pos
  exact ⟨_, this.1, this.2, rfl, trivial⟩
theorem cut_one {A : Type} {xs : List A} (k : Nat) : cut xs (some (k : Int)) (some ((k : Int) + 1)) = (match xs[k]? with | some x => [x] | none => []) := by
  unfold cut
  have e : ((k : Int) + 1) = ((k + 1 : Nat) : Int) := by omega
  rw [e, HT.sIx_nat, HT.sIx_nat]
  by_cases h : k < xs.length
  · have h1 : min k xs.length = k := by omega
    have h2 : min (k + 1) xs.length - k = 1 := by omega
    rw [h1, h2, List.getElem?_eq_getElem h, List.drop_eq_getElem_cons h]
    rfl
  · have h1 : min k xs.length = xs.length := by omega
    rw [h1, List.drop_length, List.getElem?_eq_none (by omega)]
    simp
theorem small_log {a : Int} (h : a.natAbs < 2 ^ 32) : a.natAbs.log2 ≤ 1048576 := by
  by_cases ha : a.natAbs = 0
  · rw [ha]
    have : Nat.log2 0 = 0 := by decide +kernel
    omega
  · have := (Nat.log2_lt ha).mpr h
    omega
theorem cell {ns : List Int} (hz : ∀ z ∈ ns, z.natAbs.log2 ≤ 1048576) (i : Nat) (hi : i ≤ 1001) : ∃ z rest, cut (ns.map D.int) (some (i : Int)) (some ((i : Int) + 1)) ++ [D.int (7919 * (i : Int) + 61)] = .int z :: rest ∧ z.natAbs.log2 ≤ 1048576 ∧ (cut (ns.map D.int) (some (i : Int)) (some ((i : Int) + 1))).length ≤ 1 := by
  rw [cut_one]
  cases e : (ns.map D.int)[i]? with
  | none =>
    exact ⟨7919 * (i : Int) + 61, [], rfl, small_log (by omega), by simp⟩
  | some d =>
    rw [List.getElem?_map] at e
    cases e2 : ns[i]? with
    | none => rw [e2] at e; cases e
    | some z =>
      rw [e2] at e
      cases e
      exact ⟨z, _, rfl, hz z (List.mem_of_getElem? e2), by simp⟩
theorem addl_ok {S : Store} {ds es : List D} (h : ds.length + es.length ≤ 16777216) : binD .add (.lst ds) (.lst es) S = .ok (.lst (ds ++ es), S) := by
  rw [bin_addl, sizeL, if_pos h]
theorem adds_ok {S : Store} {x y : List Char} (h : x.length + y.length ≤ 16777216) : binD .add (.str x) (.str y) S = .ok (.str (x ++ y), S) := by
  rw [bin_adds, sizeL, if_pos h]
def packL : S := .fo [3] true .sq [.lst false [.bin .add (.var 1) (.con (.int 1)), .var 1]] [.asg (.nm 2) (.bin .add (.bin .mul (.var 2) (.bin .pow (.con (.int 10)) (.con (.int 60)))) (.call "_law_mixed" [.ix (.bin .add (.sl false (.var 0) true (.var 3) true (.bin .add (.var 3) (.con (.int 1)))) (.lst false [.bin .add (.bin .mul (.con (.int 7919)) (.var 3)) (.con (.int 61))])) (.con (.int 0))]))]
theorem pack_loop {G : Ctx} {S : Store} {ns : List Int} {j : Nat} (hG : ∀ (z : Int) (S : Store), z.natAbs.log2 ≤ 1048576 → Ok (G.call "_law_mixed" [.int z] S) fun p => ∃ r : Int, 0 ≤ r ∧ r < T60 ∧ p.1 = .int r ∧ p.2 = S) (hj : j ≤ 1000) (hz : ∀ z ∈ ns, z.natAbs.log2 ≤ 1048576) : Ok (evS G packL [some (.lst (ns.map .int)), some (.int j), some (.int 0), none] S) fun p => p.1 = .nx ∧ p.2.2 = S ∧ ∃ (N : Int) (x : D), p.2.1 = [some (.lst (ns.map .int)), some (.int j), some (.int N), some x] := by
  have hT := T60_log
  have hP := T60_pos
  have e1 : ((j : Int) + 1) = ((j + 1 : Nat) : Int) := by omega
  obtain ⟨z1, r1, c1, b1, l1⟩ := cell hz (j + 1) (by omega)
  obtain ⟨z2, r2, c2, b2, l2⟩ := cell hz j (by omega)
  rw [← e1] at c1 l1
  have m0 : ∀ S : Store, binD .mul (.int 0) (.int T60) S = .ok (.int 0, S) := fun S => by rw [mul_ok (by decide +kernel) (by omega)]; simp
  have m1 : ∀ S : Store, binD .mul (.int 7919) (.int ((j : Int) + 1)) S = .ok (.int (7919 * ((j : Int) + 1)), S) := fun S => mul_ok (by decide +kernel) (Nat.le_trans (small_log (by omega)) (by omega))
  have m2 : ∀ S : Store, binD .mul (.int 7919) (.int (j : Int)) S = .ok (.int (7919 * (j : Int)), S) := fun S => mul_ok (by decide +kernel) (Nat.le_trans (small_log (by omega)) (by omega))
  have s1 : ∀ (S : Store) (d : D), binD .add (.lst (cut (List.map D.int ns) (some ((j : Int) + 1)) (some ((j : Int) + 1 + 1)))) (.lst [d]) S = .ok (.lst (cut (List.map D.int ns) (some ((j : Int) + 1)) (some ((j : Int) + 1 + 1)) ++ [d]), S) := fun S d => addl_ok (by rw [List.length_singleton]; omega)
  have s2 : ∀ (S : Store) (d : D), binD .add (.lst (cut (List.map D.int ns) (some (j : Int)) (some ((j : Int) + 1)))) (.lst [d]) S = .ok (.lst (cut (List.map D.int ns) (some (j : Int)) (some ((j : Int) + 1)) ++ [d]), S) := fun S d => addl_ok (by rw [List.length_singleton]; omega)
  simp [packL, len_t, R.ok_bind, R.hold_ok, R.bad_bind, evE, evEs, evAnd, evOr, evS, evSs, asg, asgs, runF, entry, wipeE, Ok.ok_iff, subTy, R.bind_assoc, forL, asgs, of_some, litD_f, litD_t, bin_add, bin_sub, bin_band, cmp_lti, cmp_lts, cmp_le, cmp_gt, cmp_ge, cmp_none, cmp_nnone, cmp_true, cmp_ntrue, ofB_some, cmp_in, cmp_nin, nonD_non, nonD_s, nonD_t, nonD_i, nonD_l, nonD_r, nonD_b, nonD_x, deref_s, deref_t, deref_l, deref_i, deref_b, deref_n, ok_s, ok_i, ok_b, ok_n, mem_s, flat_s, flat_i, flat_b, flat_n, ix_s, ix_t, ix_l, items_t, items_l, len_s, len_t2, len_t4, len_l, tuple_s, tuple_t, tuple_l, list_s, list_t, list_l, blt_max, blt_min, blt_all, blt_any, ty_s, ty_t, ty_l, ty_i, ty_b, ty_n, rec_join, rec_idx, rec_idxT, tupOnly_t, blt_int1, rec_idxLl, it_s, it_en, it_t, it_l, compI_sq, forI_sq, bind1, rev_s, rev_t, rev_l, blt_inrg, blt_ninrg, rec_upr, bind2, sl_t, sl_s, sl_l, part_i, eq_ss, eq_ii, eq_bb, eq_tn, eq_tc, eq_tc0, eq_t0c, in_nil, in_cons, in_strs, in_sgn, flat_map, all_true, cmp_eq_ii, cmp_eq_ss, cmp_eq_bb, cmp_ne_ii, cmp_ne_ss, bin_shrn, mem_strs, mem_strl, atI_0, atI_1, atI_2, atI_3, pow60, m0, m1, m2, s1, s2, c1, c2]
  refine hold_bind ?_
  simp only [R.bind_assoc]
  refine Ok.bind (hG _ _ b1) ?_
  rintro ⟨_, _⟩ ⟨r, h0, h1, rfl, rfl⟩
  have hr : r.natAbs.log2 ≤ 10000000 := Nat.le_trans (log_lt h0 h1) (by omega)
  simp [len_t, R.ok_bind, R.hold_ok, R.bad_bind, evE, evEs, evAnd, evOr, evS, evSs, asg, asgs, runF, entry, wipeE, Ok.ok_iff, subTy, R.bind_assoc, forL, asgs, of_some, litD_f, litD_t, bin_add, bin_sub, bin_band, cmp_lti, cmp_lts, cmp_le, cmp_gt, cmp_ge, cmp_none, cmp_nnone, cmp_true, cmp_ntrue, ofB_some, cmp_in, cmp_nin, nonD_non, nonD_s, nonD_t, nonD_i, nonD_l, nonD_r, nonD_b, nonD_x, deref_s, deref_t, deref_l, deref_i, deref_b, deref_n, ok_s, ok_i, ok_b, ok_n, mem_s, flat_s, flat_i, flat_b, flat_n, ix_s, ix_t, ix_l, items_t, items_l, len_s, len_t2, len_t4, len_l, tuple_s, tuple_t, tuple_l, list_s, list_t, list_l, blt_max, blt_min, blt_all, blt_any, ty_s, ty_t, ty_l, ty_i, ty_b, ty_n, rec_join, rec_idx, rec_idxT, tupOnly_t, blt_int1, rec_idxLl, it_s, it_en, it_t, it_l, compI_sq, forI_sq, bind1, rev_s, rev_t, rev_l, blt_inrg, blt_ninrg, rec_upr, bind2, sl_t, sl_s, sl_l, part_i, eq_ss, eq_ii, eq_bb, eq_tn, eq_tc, eq_tc0, eq_t0c, in_nil, in_cons, in_strs, in_sgn, flat_map, all_true, cmp_eq_ii, cmp_eq_ss, cmp_eq_bb, cmp_ne_ii, cmp_ne_ss, bin_shrn, mem_strs, mem_strl, atI_0, atI_1, atI_2, atI_3, mul_ok hr (show T60.natAbs.log2 ≤ 10000000 by omega), pow60, m2, s2, c2]
  refine hold_bind ?_
  simp only [R.bind_assoc]
  refine Ok.bind (hG _ _ b2) ?_
  rintro ⟨_, _⟩ ⟨r', h0', h1', rfl, rfl⟩
  simp [len_t, R.ok_bind, R.hold_ok, R.bad_bind, evE, evEs, evAnd, evOr, evS, evSs, asg, asgs, runF, entry, wipeE, Ok.ok_iff, subTy, R.bind_assoc, forL, asgs, of_some, litD_f, litD_t, bin_add, bin_sub, bin_band, cmp_lti, cmp_lts, cmp_le, cmp_gt, cmp_ge, cmp_none, cmp_nnone, cmp_true, cmp_ntrue, ofB_some, cmp_in, cmp_nin, nonD_non, nonD_s, nonD_t, nonD_i, nonD_l, nonD_r, nonD_b, nonD_x, deref_s, deref_t, deref_l, deref_i, deref_b, deref_n, ok_s, ok_i, ok_b, ok_n, mem_s, flat_s, flat_i, flat_b, flat_n, ix_s, ix_t, ix_l, items_t, items_l, len_s, len_t2, len_t4, len_l, tuple_s, tuple_t, tuple_l, list_s, list_t, list_l, blt_max, blt_min, blt_all, blt_any, ty_s, ty_t, ty_l, ty_i, ty_b, ty_n, rec_join, rec_idx, rec_idxT, tupOnly_t, blt_int1, rec_idxLl, it_s, it_en, it_t, it_l, compI_sq, forI_sq, bind1, rev_s, rev_t, rev_l, blt_inrg, blt_ninrg, rec_upr, bind2, sl_t, sl_s, sl_l, part_i, eq_ss, eq_ii, eq_bb, eq_tn, eq_tc, eq_tc0, eq_t0c, in_nil, in_cons, in_strs, in_sgn, flat_map, all_true, cmp_eq_ii, cmp_eq_ss, cmp_eq_bb, cmp_ne_ii, cmp_ne_ss, bin_shrn, mem_strs, mem_strl, atI_0, atI_1, atI_2, atI_3]
theorem e_pack {k : Nat} {S : Store} {ns : List Int} {j : Nat} (hj : j ≤ 1000) (hz : ∀ z ∈ ns, z.natAbs.log2 ≤ 1048576) : Ok (callF pg (k + 2) "_law_pack" [.lst (ns.map .int), .int j] S) fun p => p.1 = .ref S.length ∧ ∃ N : Int, p.2 = S ++ [.lst [.int N]] := by
  rw [callF_s fn_c_law_pack]
  have e : c_law_pack = ⟨2, 4, [.asg (.nm 2) (.con (.int 0)), packL, .ret (.lst true [.var 2])]⟩ := rfl
  rw [e]
  have e2 : ∀ ρ S, evS ⟨callF pg (k + 1), pg.glo, pg.fuel⟩ (.asg (.nm 2) (.con (.int 0))) ρ S = .ok (.nx, ρ.set 2 (some (.int 0)), S) := fun ρ S => by simp only [len_t, R.ok_bind, R.hold_ok, R.bad_bind, evE, evEs, evAnd, evOr, evS, evSs, asg, asgs, runF, entry, wipeE, Ok.ok_iff, subTy, R.bind_assoc, forL, asgs, of_some, litD_f, litD_t, bin_add, bin_sub, bin_band, cmp_lti, cmp_lts, cmp_le, cmp_gt, cmp_ge, cmp_none, cmp_nnone, cmp_true, cmp_ntrue, ofB_some, cmp_in, cmp_nin, nonD_non, nonD_s, nonD_t, nonD_i, nonD_l, nonD_r, nonD_b, nonD_x, deref_s, deref_t, deref_l, deref_i, deref_b, deref_n, ok_s, ok_i, ok_b, ok_n, mem_s, flat_s, flat_i, flat_b, flat_n, ix_s, ix_t, ix_l, items_t, items_l, len_s, len_t2, len_t4, len_l, tuple_s, tuple_t, tuple_l, list_s, list_t, list_l, blt_max, blt_min, blt_all, blt_any, ty_s, ty_t, ty_l, ty_i, ty_b, ty_n, rec_join, rec_idx, rec_idxT, tupOnly_t, blt_int1, rec_idxLl, it_s, it_en, it_t, it_l, compI_sq, forI_sq, bind1, rev_s, rev_t, rev_l, blt_inrg, blt_ninrg, rec_upr, bind2, sl_t, sl_s, sl_l, part_i, eq_ss, eq_ii, eq_bb, eq_tn, eq_tc, eq_tc0, eq_t0c, in_nil, in_cons, in_strs, in_sgn, flat_map, all_true, cmp_eq_ii, cmp_eq_ss, cmp_eq_bb, cmp_ne_ii, cmp_ne_ss, bin_shrn, mem_strs, mem_strl, atI_0, atI_1, atI_2, atI_3]
  have e3 : ∀ ρ S N x yy, evS ⟨callF pg (k + 1), pg.glo, pg.fuel⟩ (.ret (.lst true [.var 2])) [ρ, N, some x, yy] S = .ok (.rt (.ref S.length), [ρ, N, some x, yy], S ++ [.lst [x]]) := fun ρ S N x yy => by simp [len_t, R.ok_bind, R.hold_ok, R.bad_bind, evE, evEs, evAnd, evOr, evS, evSs, asg, asgs, runF, entry, wipeE, Ok.ok_iff, subTy, R.bind_assoc, forL, asgs, of_some, litD_f, litD_t, bin_add, bin_sub, bin_band, cmp_lti, cmp_lts, cmp_le, cmp_gt, cmp_ge, cmp_none, cmp_nnone, cmp_true, cmp_ntrue, ofB_some, cmp_in, cmp_nin, nonD_non, nonD_s, nonD_t, nonD_i, nonD_l, nonD_r, nonD_b, nonD_x, deref_s, deref_t, deref_l, deref_i, deref_b, deref_n, ok_s, ok_i, ok_b, ok_n, mem_s, flat_s, flat_i, flat_b, flat_n, ix_s, ix_t, ix_l, items_t, items_l, len_s, len_t2, len_t4, len_l, tuple_s, tuple_t, tuple_l, list_s, list_t, list_l, blt_max, blt_min, blt_all, blt_any, ty_s, ty_t, ty_l, ty_i, ty_b, ty_n, rec_join, rec_idx, rec_idxT, tupOnly_t, blt_int1, rec_idxLl, it_s, it_en, it_t, it_l, compI_sq, forI_sq, bind1, rev_s, rev_t, rev_l, blt_inrg, blt_ninrg, rec_upr, bind2, sl_t, sl_s, sl_l, part_i, eq_ss, eq_ii, eq_bb, eq_tn, eq_tc, eq_tc0, eq_t0c, in_nil, in_cons, in_strs, in_sgn, flat_map, all_true, cmp_eq_ii, cmp_eq_ss, cmp_eq_bb, cmp_ne_ii, cmp_ne_ss, bin_shrn, mem_strs, mem_strl, atI_0, atI_1, atI_2, atI_3]
  simp only [runF, List.length_cons, List.length_nil, if_true, evSs, e2, R.ok_bind, R.hold_ok, R.bind_assoc]
  refine hold_bind (Ok.bind (pack_loop (fun z S h => e_mixed h) hj hz) ?_)
  rintro ⟨_, _, _⟩ ⟨rfl, rfl, N, x, rfl⟩
  simp [len_t, R.ok_bind, R.hold_ok, R.bad_bind, evE, evEs, evAnd, evOr, evS, evSs, asg, asgs, runF, entry, wipeE, Ok.ok_iff, subTy, R.bind_assoc, forL, asgs, of_some, litD_f, litD_t, bin_add, bin_sub, bin_band, cmp_lti, cmp_lts, cmp_le, cmp_gt, cmp_ge, cmp_none, cmp_nnone, cmp_true, cmp_ntrue, ofB_some, cmp_in, cmp_nin, nonD_non, nonD_s, nonD_t, nonD_i, nonD_l, nonD_r, nonD_b, nonD_x, deref_s, deref_t, deref_l, deref_i, deref_b, deref_n, ok_s, ok_i, ok_b, ok_n, mem_s, flat_s, flat_i, flat_b, flat_n, ix_s, ix_t, ix_l, items_t, items_l, len_s, len_t2, len_t4, len_l, tuple_s, tuple_t, tuple_l, list_s, list_t, list_l, blt_max, blt_min, blt_all, blt_any, ty_s, ty_t, ty_l, ty_i, ty_b, ty_n, rec_join, rec_idx, rec_idxT, tupOnly_t, blt_int1, rec_idxLl, it_s, it_en, it_t, it_l, compI_sq, forI_sq, bind1, rev_s, rev_t, rev_l, blt_inrg, blt_ninrg, rec_upr, bind2, sl_t, sl_s, sl_l, part_i, eq_ss, eq_ii, eq_bb, eq_tn, eq_tc, eq_tc0, eq_t0c, in_nil, in_cons, in_strs, in_sgn, flat_map, all_true, cmp_eq_ii, cmp_eq_ss, cmp_eq_bb, cmp_ne_ii, cmp_ne_ss, bin_shrn, mem_strs, mem_strl, atI_0, atI_1, atI_2, atI_3]
theorem bits_log {z : Int} (h : Builtin.Int.intBits z ≤ 1048576) : z.natAbs.log2 ≤ 1048576 := by
  unfold Builtin.Int.intBits at h
  split at h
  · rename_i e
    have e : z = 0 := by simpa using e
    subst e
    have : Nat.log2 (0 : Int).natAbs = 0 := by decide +kernel
    omega
  · omega
theorem joinS_sgn : ∀ cs : List Char, joinS [] (cs.map fun c => [c]) = cs
  | [] => rfl
  | [c] => rfl
  | c :: c' :: cs => by
    have := joinS_sgn (c' :: cs)
    simp only [List.map_cons] at this
    simp only [List.map_cons, joinS, this]
    rfl
theorem sum1 : ∀ cs : List Char, ((cs.map fun c => [c]).map List.length).sum = cs.length
  | [] => rfl
  | c :: cs => by
    have := sum1 cs
    simp only [List.map_cons, List.sum_cons, this, List.length_cons, List.length_nil]
    omega
theorem e_sounds {k : Nat} {S : Store} {st : Stk} (h : st.length ≤ 1000) : callF pg (k + 1) "_law_sounds" [stockD st] S = .ok (.str (st.map (·.1)), S) := by
  rw [callF_s fn_c_law_sounds]
  simp [c_law_sounds, len_t, R.ok_bind, R.hold_ok, R.bad_bind, evE, evEs, evAnd, evOr, evS, evSs, asg, asgs, runF, entry, wipeE, Ok.ok_iff, subTy, R.bind_assoc, forL, asgs, of_some, litD_f, litD_t, bin_add, bin_sub, bin_band, cmp_lti, cmp_lts, cmp_le, cmp_gt, cmp_ge, cmp_none, cmp_nnone, cmp_true, cmp_ntrue, ofB_some, cmp_in, cmp_nin, nonD_non, nonD_s, nonD_t, nonD_i, nonD_l, nonD_r, nonD_b, nonD_x, deref_s, deref_t, deref_l, deref_i, deref_b, deref_n, ok_s, ok_i, ok_b, ok_n, mem_s, flat_s, flat_i, flat_b, flat_n, ix_s, ix_t, ix_l, items_t, items_l, len_s, len_t2, len_t4, len_l, tuple_s, tuple_t, tuple_l, list_s, list_t, list_l, blt_max, blt_min, blt_all, blt_any, ty_s, ty_t, ty_l, ty_i, ty_b, ty_n, rec_join, rec_idx, rec_idxT, tupOnly_t, blt_int1, rec_idxLl, it_s, it_en, it_t, it_l, compI_sq, forI_sq, bind1, rev_s, rev_t, rev_l, blt_inrg, blt_ninrg, rec_upr, bind2, sl_t, sl_s, sl_l, part_i, eq_ss, eq_ii, eq_bb, eq_tn, eq_tc, eq_tc0, eq_t0c, in_nil, in_cons, in_strs, in_sgn, flat_map, all_true, cmp_eq_ii, cmp_eq_ss, cmp_eq_bb, cmp_ne_ii, cmp_ne_ss, bin_shrn, mem_strs, mem_strl, atI_0, atI_1, atI_2, atI_3, stockD]
  rw [compL_map (g := fun p => sD p.1) fun p hp => by simp [sndD, len_t, R.ok_bind, R.hold_ok, R.bad_bind, evE, evEs, evAnd, evOr, evS, evSs, asg, asgs, runF, entry, wipeE, Ok.ok_iff, subTy, R.bind_assoc, forL, asgs, of_some, litD_f, litD_t, bin_add, bin_sub, bin_band, cmp_lti, cmp_lts, cmp_le, cmp_gt, cmp_ge, cmp_none, cmp_nnone, cmp_true, cmp_ntrue, ofB_some, cmp_in, cmp_nin, nonD_non, nonD_s, nonD_t, nonD_i, nonD_l, nonD_r, nonD_b, nonD_x, deref_s, deref_t, deref_l, deref_i, deref_b, deref_n, ok_s, ok_i, ok_b, ok_n, mem_s, flat_s, flat_i, flat_b, flat_n, ix_s, ix_t, ix_l, items_t, items_l, len_s, len_t2, len_t4, len_l, tuple_s, tuple_t, tuple_l, list_s, list_t, list_l, blt_max, blt_min, blt_all, blt_any, ty_s, ty_t, ty_l, ty_i, ty_b, ty_n, rec_join, rec_idx, rec_idxT, tupOnly_t, blt_int1, rec_idxLl, it_s, it_en, it_t, it_l, compI_sq, forI_sq, bind1, rev_s, rev_t, rev_l, blt_inrg, blt_ninrg, rec_upr, bind2, sl_t, sl_s, sl_l, part_i, eq_ss, eq_ii, eq_bb, eq_tn, eq_tc, eq_tc0, eq_t0c, in_nil, in_cons, in_strs, in_sgn, flat_map, all_true, cmp_eq_ii, cmp_eq_ss, cmp_eq_bb, cmp_ne_ii, cmp_ne_ss, bin_shrn, mem_strs, mem_strl, atI_0, atI_1, atI_2, atI_3]]
  simp [len_t, R.ok_bind, R.hold_ok, R.bad_bind, evE, evEs, evAnd, evOr, evS, evSs, asg, asgs, runF, entry, wipeE, Ok.ok_iff, subTy, R.bind_assoc, forL, asgs, of_some, litD_f, litD_t, bin_add, bin_sub, bin_band, cmp_lti, cmp_lts, cmp_le, cmp_gt, cmp_ge, cmp_none, cmp_nnone, cmp_true, cmp_ntrue, ofB_some, cmp_in, cmp_nin, nonD_non, nonD_s, nonD_t, nonD_i, nonD_l, nonD_r, nonD_b, nonD_x, deref_s, deref_t, deref_l, deref_i, deref_b, deref_n, ok_s, ok_i, ok_b, ok_n, mem_s, flat_s, flat_i, flat_b, flat_n, ix_s, ix_t, ix_l, items_t, items_l, len_s, len_t2, len_t4, len_l, tuple_s, tuple_t, tuple_l, list_s, list_t, list_l, blt_max, blt_min, blt_all, blt_any, ty_s, ty_t, ty_l, ty_i, ty_b, ty_n, rec_join, rec_idx, rec_idxT, tupOnly_t, blt_int1, rec_idxLl, it_s, it_en, it_t, it_l, compI_sq, forI_sq, bind1, rev_s, rev_t, rev_l, blt_inrg, blt_ninrg, rec_upr, bind2, sl_t, sl_s, sl_l, part_i, eq_ss, eq_ii, eq_bb, eq_tn, eq_tc, eq_tc0, eq_t0c, in_nil, in_cons, in_strs, in_sgn, flat_map, all_true, cmp_eq_ii, cmp_eq_ss, cmp_eq_bb, cmp_ne_ii, cmp_ne_ss, bin_shrn, mem_strs, mem_strl, atI_0, atI_1, atI_2, atI_3]
  have e : (st.map fun p => sD p.1) = ((st.map (·.1)).map fun c => [c]).map D.str := by simp [sD]
  have l : (((st.map (·.1)).map fun c => [c]).map List.length).sum + ((st.map (·.1)).map fun c => [c]).length * ([] : List Char).length ≤ 16777216 := by
    rw [sum1]
    simp
    omega
  rw [e, mth_join l, joinS_sgn]
  simp
end Z

set_option Elab.async false
set_option linter.all false
set_option maxRecDepth 100000
set_option maxHeartbeats 4000000
namespace Z
open PySem L2 PySem.Spec PyProof.Rows
theorem fo1 {G : Ctx} {i : Nat} {k : IK} {its : List E} {b : List S} {ρ : Env} {S S' : Store} {xs ds : List D} (h1 : evEs G its ρ S = .ok (xs, S')) (h2 : itrD k xs S' = .ok (.sq ds)) :
    evS G (.fo [i] true k its b) ρ S = forL (fun d ρ s => evSs G b (ρ.set i (some d)) s) ds ρ S' := by
  simp only [evS, h1, h2, R.ok_bind, forI, bind1]
theorem Fr1.get {n m : Nat} {S S' : Store} {o : O} (f : Fr1 n S S') (h : S[m]? = some o) (hn : m ≠ n) : S'[m]? = some o := (f.old m hn (List.getElem?_eq_some_iff.mp h).1).trans h

theorem map_sD_inj : ∀ a b : List Char, a.map sD = b.map sD → a = b
  | [], [], _ => rfl
  | [], _ :: _, h => by simp at h
  | _ :: _, [], h => by simp at h
  | x :: a, y :: b, h => by
    simp only [List.map_cons, List.cons.injEq] at h
    have h1 := h.1
    unfold sD at h1
    simp only [D.str.injEq, List.cons.injEq, and_true] at h1
    rw [h1, map_sD_inj a b h.2]
def known5 : List (List Char) := [['s', 't', 'o', 'p'], ['s', 't', 'o', 'p', 's'], ['s'], ['o', 'p', 'e', 'n'], ['a', 'b', 'c', 'd', 'e', 'f', 'g', 'h']]
def bit (r k : Nat) : Bool := decide (Builtin.bitAnd ((r : Int) / 2 ^ k) 1 = 1)
def marksAll (r : Nat) : List (List Char) := sortS (((List.range 5).filter fun k => bit r k).map fun k => known5.getD k [])
def marksOf (r : Nat) : List (List Char) := (marksAll r).take 4
theorem cut4 {A : Type} (xs : List A) : cut xs none (some 4) = xs.take 4 := by
  unfold cut
  show (xs.drop 0).take (HT.sIx xs.length xs.length (some ((4 : Nat) : Int)) - 0) = _
  rw [HT.sIx_nat, List.drop_zero, Nat.sub_zero]
  by_cases h : 4 ≤ xs.length
  · rw [Nat.min_eq_left h]
  · rw [Nat.min_eq_right (by omega), List.take_length, List.take_of_length_le (by omega)]
theorem bits_filter {S : Store} {f : D → Store → R (List D × Store)} {r n : Nat} {g : Nat → D} (h : ∀ k, k < n → f (.int (k : Int)) S = .ok (if bit r k then [g k] else [], S)) : compL f ((List.range n).map fun (j : Nat) => .int (j : Int)) S = .ok (((List.range n).filter fun k => bit r k).map g, S) :=
  compL_filter fun k hk => h k (List.mem_range.mp hk)
theorem len_filter5 (r : Nat) : (((List.range 5).filter fun k => bit r k).map fun k => known5.getD k []).length < 64 := by
  rw [List.length_map]
  have := List.length_filter_le (fun k => bit r k) (List.range 5)
  rw [List.length_range] at this
  omega

def stockB : List Z.S := [.asg (.nm 5) (.call "_law_take" [.var 0, .con (.int 32)]),
      .asg (.nm 6) (.blt false .sorted [.comp false [7] [7] true .rng1 [.con (.int 5)] (.cmp .eq (.bin .band (.bin .shr (.var 5) (.var 7)) (.con (.int 1))) (.con (.int 1))) (.ix (.var 2) (.var 7))]),
      .exp (.mth .append (.var 3) [.tup [.var 4, .blt false .tuple [.sl false (.var 6) false .no true (.con (.int 4))]]])]
def GoodStk (st : Stk) : Prop := st.map (·.1) ∈ [['a'], ['a', 'b'], ['a', 'b', 'c'], ['a', 'e', 'p', 't'], ['m', 'n', 'z']] ∧ ∀ p ∈ st, ∃ r < 32, p.2 = marksOf r
theorem stock_step {k n m0 : Nat} {S : Store} {ss : List Char} {st : Stk} {c : Char} {x5 x6 x7 : Option D} (h : Pk n S) (h0 : S[m0]? = some (.lst (st.map sndD))) (hm : m0 ≠ n) (hl : st.length ≤ 100) :
    Ok (evSs ⟨callF pg (k + 1), pg.glo, pg.fuel⟩ stockB [some (.ref n), some (.str ss), some (.lst (known5.map .str)), some (.ref m0), some (sD c), x5, x6, x7] S) fun p => (p.1 = .nx ∨ p.1 = .ct) ∧
      ∃ r < 32, ∃ S1, Fr1 n S S1 ∧ p.2.2 = S1.set m0 (.lst ((st ++ [(c, marksOf r)]).map sndD)) ∧ ∃ x5 x6 x7, p.2.1 = [some (.ref n), some (.str ss), some (.lst (known5.map .str)), some (.ref m0), some (sD c), x5, x6, x7] := by
  simp [stockB, len_t, R.ok_bind, R.hold_ok, R.bad_bind, evE, evEs, evAnd, evOr, evS, evSs, asg, asgs, runF, entry, wipeE, Ok.ok_iff, subTy, R.bind_assoc, forL, asgs, of_some, litD_f, litD_t, bin_add, bin_sub, bin_band, cmp_lti, cmp_lts, cmp_le, cmp_gt, cmp_ge, cmp_none, cmp_nnone, cmp_true, cmp_ntrue, ofB_some, cmp_in, cmp_nin, nonD_non, nonD_s, nonD_t, nonD_i, nonD_l, nonD_r, nonD_b, nonD_x, deref_s, deref_t, deref_l, deref_i, deref_b, deref_n, ok_s, ok_i, ok_b, ok_n, mem_s, flat_s, flat_i, flat_b, flat_n, ix_s, ix_t, ix_l, items_t, items_l, len_s, len_t2, len_t4, len_l, tuple_s, tuple_t, tuple_l, list_s, list_t, list_l, blt_max, blt_min, blt_all, blt_any, ty_s, ty_t, ty_l, ty_i, ty_b, ty_n, rec_join, rec_idx, rec_idxT, tupOnly_t, blt_int1, rec_idxLl, it_s, it_en, it_t, it_l, compI_sq, forI_sq, bind1, rev_s, rev_t, rev_l, blt_inrg, blt_ninrg, rec_upr, bind2, sl_t, sl_s, sl_l, part_i, eq_ss, eq_ii, eq_bb, eq_tn, eq_tc, eq_tc0, eq_t0c, in_nil, in_cons, in_strs, in_sgn, flat_map, all_true, cmp_eq_ii, cmp_eq_ss, cmp_eq_bb, cmp_ne_ii, cmp_ne_ss, bin_shrn, mem_strs, mem_strl, atI_0, atI_1, atI_2, atI_3]
  refine hold_bind ?_
  simp only [R.bind_assoc]
  refine Ok.bind (e_take h (by decide) (by decide)) ?_
  rintro ⟨_, S1⟩ ⟨r, h1, rfl, f1⟩
  have hr : r < 32 := by omega
  have g1 := f1.get h0 hm
  simp [len_t, R.ok_bind, R.hold_ok, R.bad_bind, evE, evEs, evAnd, evOr, evS, evSs, asg, asgs, runF, entry, wipeE, Ok.ok_iff, subTy, R.bind_assoc, forL, asgs, of_some, litD_f, litD_t, bin_add, bin_sub, bin_band, cmp_lti, cmp_lts, cmp_le, cmp_gt, cmp_ge, cmp_none, cmp_nnone, cmp_true, cmp_ntrue, ofB_some, cmp_in, cmp_nin, nonD_non, nonD_s, nonD_t, nonD_i, nonD_l, nonD_r, nonD_b, nonD_x, deref_s, deref_t, deref_l, deref_i, deref_b, deref_n, ok_s, ok_i, ok_b, ok_n, mem_s, flat_s, flat_i, flat_b, flat_n, ix_s, ix_t, ix_l, items_t, items_l, len_s, len_t2, len_t4, len_l, tuple_s, tuple_t, tuple_l, list_s, list_t, list_l, blt_max, blt_min, blt_all, blt_any, ty_s, ty_t, ty_l, ty_i, ty_b, ty_n, rec_join, rec_idx, rec_idxT, tupOnly_t, blt_int1, rec_idxLl, it_s, it_en, it_t, it_l, compI_sq, forI_sq, bind1, rev_s, rev_t, rev_l, blt_inrg, blt_ninrg, rec_upr, bind2, sl_t, sl_s, sl_l, part_i, eq_ss, eq_ii, eq_bb, eq_tn, eq_tc, eq_tc0, eq_t0c, in_nil, in_cons, in_strs, in_sgn, flat_map, all_true, cmp_eq_ii, cmp_eq_ss, cmp_eq_bb, cmp_ne_ii, cmp_ne_ss, bin_shrn, mem_strs, mem_strl, atI_0, atI_1, atI_2, atI_3]
  rw [it_r1i (by decide) (by decide)]
  simp [len_t, R.ok_bind, R.hold_ok, R.bad_bind, evE, evEs, evAnd, evOr, evS, evSs, asg, asgs, runF, entry, wipeE, Ok.ok_iff, subTy, R.bind_assoc, forL, asgs, of_some, litD_f, litD_t, bin_add, bin_sub, bin_band, cmp_lti, cmp_lts, cmp_le, cmp_gt, cmp_ge, cmp_none, cmp_nnone, cmp_true, cmp_ntrue, ofB_some, cmp_in, cmp_nin, nonD_non, nonD_s, nonD_t, nonD_i, nonD_l, nonD_r, nonD_b, nonD_x, deref_s, deref_t, deref_l, deref_i, deref_b, deref_n, ok_s, ok_i, ok_b, ok_n, mem_s, flat_s, flat_i, flat_b, flat_n, ix_s, ix_t, ix_l, items_t, items_l, len_s, len_t2, len_t4, len_l, tuple_s, tuple_t, tuple_l, list_s, list_t, list_l, blt_max, blt_min, blt_all, blt_any, ty_s, ty_t, ty_l, ty_i, ty_b, ty_n, rec_join, rec_idx, rec_idxT, tupOnly_t, blt_int1, rec_idxLl, it_s, it_en, it_t, it_l, compI_sq, forI_sq, bind1, rev_s, rev_t, rev_l, blt_inrg, blt_ninrg, rec_upr, bind2, sl_t, sl_s, sl_l, part_i, eq_ss, eq_ii, eq_bb, eq_tn, eq_tc, eq_tc0, eq_t0c, in_nil, in_cons, in_strs, in_sgn, flat_map, all_true, cmp_eq_ii, cmp_eq_ss, cmp_eq_bb, cmp_ne_ii, cmp_ne_ss, bin_shrn, mem_strs, mem_strl, atI_0, atI_1, atI_2, atI_3]
  rw [show List.map (fun (j : Nat) => D.int (j : Int)) (List.range 5) = ((List.range 5).map fun (j : Nat) => .int (j : Int)) from rfl, bits_filter (r := r) (g := fun k => .str (known5.getD k [])) fun k hk => ?_]
  · have e : (List.map (fun k => D.str (known5.getD k [])) (List.filter (fun k => bit r k) (List.range 5))) = (((List.range 5).filter fun k => bit r k).map fun k => known5.getD k []).map D.str := by rw [List.map_map]; rfl
    have el : (st.map sndD).length < sizeLine := by rw [List.length_map, sizeL]; omega
    have g1 : S1[m0]? = some (.lst (st.map sndD)) := g1
    simp only [e, len_t, R.ok_bind, R.hold_ok, R.bad_bind, evE, evEs, evAnd, evOr, evS, evSs, asg, asgs, runF, entry, wipeE, Ok.ok_iff, subTy, R.bind_assoc, forL, asgs, of_some, litD_f, litD_t, bin_add, bin_sub, bin_band, cmp_lti, cmp_lts, cmp_le, cmp_gt, cmp_ge, cmp_none, cmp_nnone, cmp_true, cmp_ntrue, ofB_some, cmp_in, cmp_nin, nonD_non, nonD_s, nonD_t, nonD_i, nonD_l, nonD_r, nonD_b, nonD_x, deref_s, deref_t, deref_l, deref_i, deref_b, deref_n, ok_s, ok_i, ok_b, ok_n, mem_s, flat_s, flat_i, flat_b, flat_n, ix_s, ix_t, ix_l, items_t, items_l, len_s, len_t2, len_t4, len_l, tuple_s, tuple_t, tuple_l, list_s, list_t, list_l, blt_max, blt_min, blt_all, blt_any, ty_s, ty_t, ty_l, ty_i, ty_b, ty_n, rec_join, rec_idx, rec_idxT, tupOnly_t, blt_int1, rec_idxLl, it_s, it_en, it_t, it_l, compI_sq, forI_sq, bind1, rev_s, rev_t, rev_l, blt_inrg, blt_ninrg, rec_upr, bind2, sl_t, sl_s, sl_l, part_i, eq_ss, eq_ii, eq_bb, eq_tn, eq_tc, eq_tc0, eq_t0c, in_nil, in_cons, in_strs, in_sgn, flat_map, all_true, cmp_eq_ii, cmp_eq_ss, cmp_eq_bb, cmp_ne_ii, cmp_ne_ss, bin_shrn, mem_strs, mem_strl, atI_0, atI_1, atI_2, atI_3, blt_sorted (len_filter5 r), rec_app g1, if_true, mth_app g1 el, List.getElem?_cons_zero, List.getElem?_cons_succ, List.set_cons_succ, List.set_cons_zero]
    refine ⟨.inl trivial, r, hr, S1, f1, ?_, _, _, _, rfl⟩
    rw [cut4, ← List.map_take]
    rfl
  · have hk5 : k < known5.length := hk
    by_cases hb : Builtin.bitAnd ((r : Int) / 2 ^ k) 1 = 1 <;> simp [len_t, R.ok_bind, R.hold_ok, R.bad_bind, evE, evEs, evAnd, evOr, evS, evSs, asg, asgs, runF, entry, wipeE, Ok.ok_iff, subTy, R.bind_assoc, forL, asgs, of_some, litD_f, litD_t, bin_add, bin_sub, bin_band, cmp_lti, cmp_lts, cmp_le, cmp_gt, cmp_ge, cmp_none, cmp_nnone, cmp_true, cmp_ntrue, ofB_some, cmp_in, cmp_nin, nonD_non, nonD_s, nonD_t, nonD_i, nonD_l, nonD_r, nonD_b, nonD_x, deref_s, deref_t, deref_l, deref_i, deref_b, deref_n, ok_s, ok_i, ok_b, ok_n, mem_s, flat_s, flat_i, flat_b, flat_n, ix_s, ix_t, ix_l, items_t, items_l, len_s, len_t2, len_t4, len_l, tuple_s, tuple_t, tuple_l, list_s, list_t, list_l, blt_max, blt_min, blt_all, blt_any, ty_s, ty_t, ty_l, ty_i, ty_b, ty_n, rec_join, rec_idx, rec_idxT, tupOnly_t, blt_int1, rec_idxLl, it_s, it_en, it_t, it_l, compI_sq, forI_sq, bind1, rev_s, rev_t, rev_l, blt_inrg, blt_ninrg, rec_upr, bind2, sl_t, sl_s, sl_l, part_i, eq_ss, eq_ii, eq_bb, eq_tn, eq_tc, eq_tc0, eq_t0c, in_nil, in_cons, in_strs, in_sgn, flat_map, all_true, cmp_eq_ii, cmp_eq_ss, cmp_eq_bb, cmp_ne_ii, cmp_ne_ss, bin_shrn, mem_strs, mem_strl, atI_0, atI_1, atI_2, atI_3, bit, atI_n, hb, hk5]
def stockL : Z.S := .fo [4] true .sq [.var 1] stockB
theorem stock_loop {k n m0 : Nat} {S : Store} {ss : List Char} (h : Pk n S) (h0 : S[m0]? = some (.lst [])) (hm : m0 ≠ n) (hl : ss.length ≤ 100) :
    Ok (evS ⟨callF pg (k + 1), pg.glo, pg.fuel⟩ stockL [some (.ref n), some (.str ss), some (.lst (known5.map .str)), some (.ref m0), none, none, none, none] S) fun p => p.1 = .nx ∧
      ∃ (st : Stk) (S1 : Store), p.2.2 = S1 ∧ Pk n S1 ∧ S.length ≤ S1.length ∧ (∀ m, m ≠ n → m ≠ m0 → m < S.length → S1[m]? = S[m]?) ∧ st.map (·.1) = ss ∧ (∀ p ∈ st, ∃ r < 32, p.2 = marksOf r) ∧ S1[m0]? = some (.lst (st.map sndD)) ∧ ∃ x4 x5 x6 x7, p.2.1 = [some (.ref n), some (.str ss), some (.lst (known5.map .str)), some (.ref m0), x4, x5, x6, x7] := by
  unfold stockL
  rw [fo1 (S' := S) (xs := [.str ss]) (ds := ss.map fun c => .str [c]) (by simp [len_t, R.ok_bind, R.hold_ok, R.bad_bind, evE, evEs, evAnd, evOr, evS, evSs, asg, asgs, runF, entry, wipeE, Ok.ok_iff, subTy, R.bind_assoc, forL, asgs, of_some, litD_f, litD_t, bin_add, bin_sub, bin_band, cmp_lti, cmp_lts, cmp_le, cmp_gt, cmp_ge, cmp_none, cmp_nnone, cmp_true, cmp_ntrue, ofB_some, cmp_in, cmp_nin, nonD_non, nonD_s, nonD_t, nonD_i, nonD_l, nonD_r, nonD_b, nonD_x, deref_s, deref_t, deref_l, deref_i, deref_b, deref_n, ok_s, ok_i, ok_b, ok_n, mem_s, flat_s, flat_i, flat_b, flat_n, ix_s, ix_t, ix_l, items_t, items_l, len_s, len_t2, len_t4, len_l, tuple_s, tuple_t, tuple_l, list_s, list_t, list_l, blt_max, blt_min, blt_all, blt_any, ty_s, ty_t, ty_l, ty_i, ty_b, ty_n, rec_join, rec_idx, rec_idxT, tupOnly_t, blt_int1, rec_idxLl, it_s, it_en, it_t, it_l, compI_sq, forI_sq, bind1, rev_s, rev_t, rev_l, blt_inrg, blt_ninrg, rec_upr, bind2, sl_t, sl_s, sl_l, part_i, eq_ss, eq_ii, eq_bb, eq_tn, eq_tc, eq_tc0, eq_t0c, in_nil, in_cons, in_strs, in_sgn, flat_map, all_true, cmp_eq_ii, cmp_eq_ss, cmp_eq_bb, cmp_ne_ii, cmp_ne_ss, bin_shrn, mem_strs, mem_strl, atI_0, atI_1, atI_2, atI_3]) it_s]
  have := forL_inv (f := fun d ρ s => evSs ⟨callF pg (k + 1), pg.glo, pg.fuel⟩ stockB (ρ.set 4 (some d)) s)
    (fun pre ρ S1 => ∃ st : Stk, pre = (st.map (·.1)).map sD ∧ Pk n S1 ∧ S.length ≤ S1.length ∧ (∀ m, m ≠ n → m ≠ m0 → m < S.length → S1[m]? = S[m]?) ∧ (∀ p ∈ st, ∃ r < 32, p.2 = marksOf r) ∧ S1[m0]? = some (.lst (st.map sndD)) ∧ ∃ x4 x5 x6 x7, ρ = [some (.ref n), some (.str ss), some (.lst (known5.map .str)), some (.ref m0), x4, x5, x6, x7])
    (all := ss.map fun c => .str [c]) (ρ := [some (.ref n), some (.str ss), some (.lst (known5.map .str)), some (.ref m0), none, none, none, none]) (S := S) ⟨[], rfl, h, Nat.le_refl _, fun _ _ _ _ => rfl, fun _ h => (nomatch h), h0, _, _, _, _, rfl⟩ ?_
  · refine this.mono ?_
    rintro ⟨a, b, c⟩ ⟨e, st, e1, h1, h2, h3, h4, h5, h7⟩
    refine ⟨e, st, c, rfl, h1, h2, h3, ?_, h4, h5, h7⟩
    have : ss.map sD = (st.map (·.1)).map sD := e1
    exact (map_sD_inj _ _ this).symm
  · rintro pre d post _ S1 e ⟨st, rfl, h1, h2, h3, h4, h5, x4, x5, x6, x7, rfl⟩
    have el := congrArg List.length e
    simp only [List.length_map, List.length_append, List.length_cons] at el
    have hd : d ∈ ss.map fun c => D.str [c] := by rw [e]; simp
    obtain ⟨c, _, rfl⟩ := List.mem_map.mp hd
    refine (stock_step (c := c) (st := st) h1 h5 hm (by omega)).mono ?_
    rintro ⟨a, b, _⟩ ⟨q, r, hr, S2, f2, rfl, x5, x6, x7, rfl⟩
    have hl2 : m0 < S2.length := Nat.lt_of_lt_of_le (List.getElem?_eq_some_iff.mp h5).1 f2.len
    refine ⟨q, st ++ [(c, marksOf r)], by simp [sD], ?_, ?_, ?_, ?_, ?_, _, _, _, _, rfl⟩
    · obtain ⟨N, hN⟩ := f2.pk
      exact ⟨N, by show (S2.set m0 _)[n]? = _; rw [List.getElem?_set_ne hm]; exact hN⟩
    · show _ ≤ (S2.set m0 _).length
      rw [List.length_set]
      exact Nat.le_trans h2 f2.len
    · intro m a b c
      show (S2.set m0 _)[m]? = _
      rw [List.getElem?_set_ne (Ne.symm b), f2.old m a (Nat.lt_of_lt_of_le c h2)]
      exact h3 m a b c
    · intro p hp
      rcases List.mem_append.mp hp with hp | hp
      · exact h4 p hp
      · rw [List.mem_singleton.mp hp]
        exact ⟨r, hr, rfl⟩
    · show (S2.set m0 _)[m0]? = _
      rw [List.getElem?_set_self hl2]
theorem e_stock {k n : Nat} {S : Store} (h : Pk n S) : Ok (callF pg (k + 2) "_law_stock" [.ref n] S) fun p => ∃ st, GoodStk st ∧ p.1 = stockD st ∧ Fr1 n S p.2 := by
  rw [callF_s fn_c_law_stock]
  have e : c_law_stock = ⟨1, 8, [.asg (.nm 1) (.ix (.lst false [.con (.str ['a']), .con (.str ['a', 'b']), .con (.str ['a', 'b']), .con (.str ['a', 'b', 'c']), .con (.str ['a', 'e', 'p', 't']), .con (.str ['m', 'n', 'z'])]) (.call "_law_take" [.var 0, .con (.int 6)])),
    .asg (.nm 2) (.lst false [.con (.str ['s', 't', 'o', 'p']), .con (.str ['s', 't', 'o', 'p', 's']), .con (.str ['s']), .con (.str ['o', 'p', 'e', 'n']), .con (.str ['a', 'b', 'c', 'd', 'e', 'f', 'g', 'h'])]),
    .asg (.nm 3) (.lst true []), stockL, .ret (.blt false .tuple [.var 3])]⟩ := rfl
  rw [e]
  simp only [runF, entry, List.length_cons, List.length_nil, if_true, evSs, R.bind_assoc]
  have a1 : ∀ r : Nat, r < 6 → ∃ ss : List Char, atI [D.str ['a'], .str ['a', 'b'], .str ['a', 'b'], .str ['a', 'b', 'c'], .str ['a', 'e', 'p', 't'], .str ['m', 'n', 'z']] (r : Int) = some (.str ss) ∧ ss ∈ [['a'], ['a', 'b'], ['a', 'b', 'c'], ['a', 'e', 'p', 't'], ['m', 'n', 'z']] ∧ ss.length ≤ 100 := by
    intro r hr
    rw [atI_n]
    match r, hr with
    | 0, _ => exact ⟨_, rfl, by simp, by simp⟩
    | 1, _ => exact ⟨_, rfl, by simp, by simp⟩
    | 2, _ => exact ⟨_, rfl, by simp, by simp⟩
    | 3, _ => exact ⟨_, rfl, by simp, by simp⟩
    | 4, _ => exact ⟨_, rfl, by simp, by simp⟩
    | 5, _ => exact ⟨_, rfl, by simp, by simp⟩
  refine Ok.bind (P := fun p => p.1 = .nx ∧ Fr1 n S p.2.2 ∧ ∃ ss : List Char, ss ∈ [['a'], ['a', 'b'], ['a', 'b', 'c'], ['a', 'e', 'p', 't'], ['m', 'n', 'z']] ∧ ss.length ≤ 100 ∧ p.2.1 = [some (.ref n), some (.str ss), none, none, none, none, none, none]) ?_ ?_
  · simp [len_t, R.ok_bind, R.hold_ok, R.bad_bind, evE, evEs, evAnd, evOr, evS, evSs, asg, asgs, runF, entry, wipeE, Ok.ok_iff, subTy, R.bind_assoc, forL, asgs, of_some, litD_f, litD_t, bin_add, bin_sub, bin_band, cmp_lti, cmp_lts, cmp_le, cmp_gt, cmp_ge, cmp_none, cmp_nnone, cmp_true, cmp_ntrue, ofB_some, cmp_in, cmp_nin, nonD_non, nonD_s, nonD_t, nonD_i, nonD_l, nonD_r, nonD_b, nonD_x, deref_s, deref_t, deref_l, deref_i, deref_b, deref_n, ok_s, ok_i, ok_b, ok_n, mem_s, flat_s, flat_i, flat_b, flat_n, ix_s, ix_t, ix_l, items_t, items_l, len_s, len_t2, len_t4, len_l, tuple_s, tuple_t, tuple_l, list_s, list_t, list_l, blt_max, blt_min, blt_all, blt_any, ty_s, ty_t, ty_l, ty_i, ty_b, ty_n, rec_join, rec_idx, rec_idxT, tupOnly_t, blt_int1, rec_idxLl, it_s, it_en, it_t, it_l, compI_sq, forI_sq, bind1, rev_s, rev_t, rev_l, blt_inrg, blt_ninrg, rec_upr, bind2, sl_t, sl_s, sl_l, part_i, eq_ss, eq_ii, eq_bb, eq_tn, eq_tc, eq_tc0, eq_t0c, in_nil, in_cons, in_strs, in_sgn, flat_map, all_true, cmp_eq_ii, cmp_eq_ss, cmp_eq_bb, cmp_ne_ii, cmp_ne_ss, bin_shrn, mem_strs, mem_strl, atI_0, atI_1, atI_2, atI_3]
    refine hold_ok' ?_
    refine Ok.bind (e_take h (by decide) (by decide)) ?_
    rintro ⟨_, S1⟩ ⟨r, h1, rfl, f1⟩
    obtain ⟨ss, e1, e2, e3⟩ := a1 r (by omega)
    have e2 := e2
    simp [len_t, R.ok_bind, R.hold_ok, R.bad_bind, evE, evEs, evAnd, evOr, evS, evSs, asg, asgs, runF, entry, wipeE, Ok.ok_iff, subTy, R.bind_assoc, forL, asgs, of_some, litD_f, litD_t, bin_add, bin_sub, bin_band, cmp_lti, cmp_lts, cmp_le, cmp_gt, cmp_ge, cmp_none, cmp_nnone, cmp_true, cmp_ntrue, ofB_some, cmp_in, cmp_nin, nonD_non, nonD_s, nonD_t, nonD_i, nonD_l, nonD_r, nonD_b, nonD_x, deref_s, deref_t, deref_l, deref_i, deref_b, deref_n, ok_s, ok_i, ok_b, ok_n, mem_s, flat_s, flat_i, flat_b, flat_n, ix_s, ix_t, ix_l, items_t, items_l, len_s, len_t2, len_t4, len_l, tuple_s, tuple_t, tuple_l, list_s, list_t, list_l, blt_max, blt_min, blt_all, blt_any, ty_s, ty_t, ty_l, ty_i, ty_b, ty_n, rec_join, rec_idx, rec_idxT, tupOnly_t, blt_int1, rec_idxLl, it_s, it_en, it_t, it_l, compI_sq, forI_sq, bind1, rev_s, rev_t, rev_l, blt_inrg, blt_ninrg, rec_upr, bind2, sl_t, sl_s, sl_l, part_i, eq_ss, eq_ii, eq_bb, eq_tn, eq_tc, eq_tc0, eq_t0c, in_nil, in_cons, in_strs, in_sgn, flat_map, all_true, cmp_eq_ii, cmp_eq_ss, cmp_eq_bb, cmp_ne_ii, cmp_ne_ss, bin_shrn, mem_strs, mem_strl, atI_0, atI_1, atI_2, atI_3, e1]
    exact ⟨f1, by simpa using e2⟩
  · rintro ⟨_, _, S1⟩ ⟨rfl, f1, ss, hs, hl, rfl⟩
    have f1 : Fr1 n S S1 := f1
    have b1 : ∀ ρ S, evS ⟨callF pg (k + 1), pg.glo, pg.fuel⟩ (.asg (.nm 2) (.lst false [.con (.str ['s', 't', 'o', 'p']), .con (.str ['s', 't', 'o', 'p', 's']), .con (.str ['s']), .con (.str ['o', 'p', 'e', 'n']), .con (.str ['a', 'b', 'c', 'd', 'e', 'f', 'g', 'h'])])) ρ S = .ok (.nx, ρ.set 2 (some (.lst (known5.map .str))), S) := fun ρ S => by simp [len_t, R.ok_bind, R.hold_ok, R.bad_bind, evE, evEs, evAnd, evOr, evS, evSs, asg, asgs, runF, entry, wipeE, Ok.ok_iff, subTy, R.bind_assoc, forL, asgs, of_some, litD_f, litD_t, bin_add, bin_sub, bin_band, cmp_lti, cmp_lts, cmp_le, cmp_gt, cmp_ge, cmp_none, cmp_nnone, cmp_true, cmp_ntrue, ofB_some, cmp_in, cmp_nin, nonD_non, nonD_s, nonD_t, nonD_i, nonD_l, nonD_r, nonD_b, nonD_x, deref_s, deref_t, deref_l, deref_i, deref_b, deref_n, ok_s, ok_i, ok_b, ok_n, mem_s, flat_s, flat_i, flat_b, flat_n, ix_s, ix_t, ix_l, items_t, items_l, len_s, len_t2, len_t4, len_l, tuple_s, tuple_t, tuple_l, list_s, list_t, list_l, blt_max, blt_min, blt_all, blt_any, ty_s, ty_t, ty_l, ty_i, ty_b, ty_n, rec_join, rec_idx, rec_idxT, tupOnly_t, blt_int1, rec_idxLl, it_s, it_en, it_t, it_l, compI_sq, forI_sq, bind1, rev_s, rev_t, rev_l, blt_inrg, blt_ninrg, rec_upr, bind2, sl_t, sl_s, sl_l, part_i, eq_ss, eq_ii, eq_bb, eq_tn, eq_tc, eq_tc0, eq_t0c, in_nil, in_cons, in_strs, in_sgn, flat_map, all_true, cmp_eq_ii, cmp_eq_ss, cmp_eq_bb, cmp_ne_ii, cmp_ne_ss, bin_shrn, mem_strs, mem_strl, atI_0, atI_1, atI_2, atI_3, known5]
    have b2 : ∀ ρ S, evS ⟨callF pg (k + 1), pg.glo, pg.fuel⟩ (.asg (.nm 3) (.lst true [])) ρ S = .ok (.nx, ρ.set 3 (some (.ref S.length)), S ++ [.lst []]) := fun ρ S => by simp [len_t, R.ok_bind, R.hold_ok, R.bad_bind, evE, evEs, evAnd, evOr, evS, evSs, asg, asgs, runF, entry, wipeE, Ok.ok_iff, subTy, R.bind_assoc, forL, asgs, of_some, litD_f, litD_t, bin_add, bin_sub, bin_band, cmp_lti, cmp_lts, cmp_le, cmp_gt, cmp_ge, cmp_none, cmp_nnone, cmp_true, cmp_ntrue, ofB_some, cmp_in, cmp_nin, nonD_non, nonD_s, nonD_t, nonD_i, nonD_l, nonD_r, nonD_b, nonD_x, deref_s, deref_t, deref_l, deref_i, deref_b, deref_n, ok_s, ok_i, ok_b, ok_n, mem_s, flat_s, flat_i, flat_b, flat_n, ix_s, ix_t, ix_l, items_t, items_l, len_s, len_t2, len_t4, len_l, tuple_s, tuple_t, tuple_l, list_s, list_t, list_l, blt_max, blt_min, blt_all, blt_any, ty_s, ty_t, ty_l, ty_i, ty_b, ty_n, rec_join, rec_idx, rec_idxT, tupOnly_t, blt_int1, rec_idxLl, it_s, it_en, it_t, it_l, compI_sq, forI_sq, bind1, rev_s, rev_t, rev_l, blt_inrg, blt_ninrg, rec_upr, bind2, sl_t, sl_s, sl_l, part_i, eq_ss, eq_ii, eq_bb, eq_tn, eq_tc, eq_tc0, eq_t0c, in_nil, in_cons, in_strs, in_sgn, flat_map, all_true, cmp_eq_ii, cmp_eq_ss, cmp_eq_bb, cmp_ne_ii, cmp_ne_ss, bin_shrn, mem_strs, mem_strl, atI_0, atI_1, atI_2, atI_3]
    have hn := f1.pk.lt
    have f2 : Fr1 n S1 (S1 ++ [.lst []]) := Fr1.push f1.pk
    simp only [b1, b2, R.ok_bind, R.hold_ok, R.bind_assoc, List.set_cons_succ, List.set_cons_zero]
    refine hold_bind (Ok.bind (stock_loop (m0 := S1.length) f2.pk (by simp) (by omega) hl) ?_)
    rintro ⟨_, _, S2⟩ ⟨rfl, st, _, rfl, h1, h2, h3, h4, h5, h6, x4, x5, x6, x7, rfl⟩
    have h6 : S2[S1.length]? = some (.lst (st.map sndD)) := h6
    simp [len_t, R.ok_bind, R.hold_ok, R.bad_bind, evE, evEs, evAnd, evOr, evS, evSs, asg, asgs, runF, entry, wipeE, Ok.ok_iff, subTy, R.bind_assoc, forL, asgs, of_some, litD_f, litD_t, bin_add, bin_sub, bin_band, cmp_lti, cmp_lts, cmp_le, cmp_gt, cmp_ge, cmp_none, cmp_nnone, cmp_true, cmp_ntrue, ofB_some, cmp_in, cmp_nin, nonD_non, nonD_s, nonD_t, nonD_i, nonD_l, nonD_r, nonD_b, nonD_x, deref_s, deref_t, deref_l, deref_i, deref_b, deref_n, ok_s, ok_i, ok_b, ok_n, mem_s, flat_s, flat_i, flat_b, flat_n, ix_s, ix_t, ix_l, items_t, items_l, len_s, len_t2, len_t4, len_l, tuple_s, tuple_t, tuple_l, list_s, list_t, list_l, blt_max, blt_min, blt_all, blt_any, ty_s, ty_t, ty_l, ty_i, ty_b, ty_n, rec_join, rec_idx, rec_idxT, tupOnly_t, blt_int1, rec_idxLl, it_s, it_en, it_t, it_l, compI_sq, forI_sq, bind1, rev_s, rev_t, rev_l, blt_inrg, blt_ninrg, rec_upr, bind2, sl_t, sl_s, sl_l, part_i, eq_ss, eq_ii, eq_bb, eq_tn, eq_tc, eq_tc0, eq_t0c, in_nil, in_cons, in_strs, in_sgn, flat_map, all_true, cmp_eq_ii, cmp_eq_ss, cmp_eq_bb, cmp_ne_ii, cmp_ne_ss, bin_shrn, mem_strs, mem_strl, atI_0, atI_1, atI_2, atI_3, tuple_r h6]
    refine ⟨st, ⟨by rw [h4]; simpa using hs, h5⟩, rfl, f1.trans ⟨h1, ?_, fun m a b => ?_⟩⟩
    · have := h2
      simp at this
      omega
    · rw [h3 m a (by omega) (by simp; omega)]
      exact f2.old m a b
end Z

set_option Elab.async false
set_option linter.all false
set_option maxRecDepth 100000
set_option maxHeartbeats 4000000
namespace Z
open PySem L2 PySem.Spec PyProof.Rows
theorem ltS_irr : ∀ a : List Char, ltS a a = false
  | [] => rfl
  | x :: a => by
    unfold ltS
    simp only [Nat.lt_irrefl, if_false]
    exact ltS_irr a
def Rise (xs : List (List Char)) : Prop := List.Pairwise (fun a b => ltS a b = true) xs
/-! signs -/
def sgnD : Option (List Char) → D
  | none => .non
  | some cs => .tup (cs.map sD)
def GoodSg (ss : List Char) (sg : Option (List Char)) : Prop := ∀ cs, sg = some cs → cs ≠ [] ∧ List.Sublist cs ('#' :: ss)
end Z

set_option Elab.async false
set_option linter.all false
set_option maxRecDepth 100000
set_option maxHeartbeats 4000000
namespace Z
open PySem L2 PySem.Spec PyProof.Rows
/-! changes -/
abbrev Kv := List (List Char × List Char)
def kD (p : List Char × List Char) : D := .str p.1
def vD (p : List Char × List Char) : D := .str p.2
def chD (p : List Char × List Char) : D := .tup [.str p.1, .str p.2]
def put (kv : Kv) (a b : List Char) : Kv := if a ∈ kv.map (·.1) then kv.map fun p => if p.1 = a then (p.1, b) else p else kv ++ [(a, b)]
def look (kv : Kv) (a : List Char) : List Char := (kv.lookup a).getD []
theorem inD_keys {kv : Kv} {a : List Char} : inD (.str a) (kv.map kD) = decide (a ∈ kv.map (·.1)) := by
  have : kv.map kD = (kv.map (·.1)).map .str := by rw [List.map_map]; rfl
  rw [this, in_strs]
theorem putV_map {a b : List Char} : ∀ kv : Kv, putV (.str a) (.str b) (kv.map kD) (kv.map vD) = (kv.map fun p => if p.1 = a then (p.1, b) else p).map vD
  | [] => rfl
  | p :: kv => by
    simp only [List.map_cons, putV, putV_map kv]
    congr 1
    unfold kD
    rw [eq_ss]
    by_cases h : p.1 = a
    · rw [decide_eq_true h, if_pos h]; rfl
    · rw [decide_eq_false h, if_neg h]; rfl
theorem putK_map {kv : Kv} {a b : List Char} : putK (kv.map kD) (kv.map vD) (.str a) (.str b) = ((put kv a b).map kD, (put kv a b).map vD) := by
  unfold putK put
  rw [inD_keys]
  by_cases h : a ∈ kv.map (·.1)
  · rw [decide_eq_true h, if_pos h, if_pos rfl, putV_map]
    congr 1
    rw [List.map_map]
    apply List.map_congr_left
    intro p _
    show kD p = kD (if p.1 = a then (p.1, b) else p)
    split <;> rfl
  · rw [decide_eq_false h, if_neg h, if_neg (by decide), List.map_append, List.map_append]
    rfl
theorem keys_ok {kv : Kv} : (kv.map kD).all keyOk = true := by
  rw [List.all_eq_true]
  intro d hd
  obtain ⟨p, _, rfl⟩ := List.mem_map.mp hd
  rfl
theorem findK_look : ∀ {kv : Kv} {a : List Char}, a ∈ kv.map (·.1) → findK (kv.map kD) (kv.map vD) (.str a) = some (.str (look kv a)) ∧ (a, look kv a) ∈ kv
  | [], _, h => by simp at h
  | (x, y) :: kv, a, h => by
    simp only [List.map_cons, findK]
    unfold kD
    rw [eq_ss]
    by_cases e : x = a
    · subst e
      rw [decide_eq_true rfl, if_pos rfl]
      have : look ((x, y) :: kv) x = y := by simp [look]
      rw [this]
      exact ⟨rfl, by simp⟩
    · rw [decide_eq_false e, if_neg (by decide)]
      have h' : a ∈ kv.map (·.1) := by
        simp only [List.map_cons, List.mem_cons] at h
        rcases h with h | h
        · exact absurd h.symm e
        · exact h
      have : look ((x, y) :: kv) a = look kv a := by
        unfold look
        rw [List.lookup_cons]
        have : (a == x) = false := by simpa using fun q : a = x => e q.symm
        rw [this]
      rw [this]
      have ih := findK_look (kv := kv) h'
      exact ⟨ih.1, List.mem_cons_of_mem _ ih.2⟩
theorem ix_dct {S : Store} {m : Nat} {kv : Kv} {a : List Char} (h : S[m]? = some (.dct (kv.map kD) (kv.map vD))) (ha : a ∈ kv.map (·.1)) : ixD (.ref m) (.str a) S = .ok (.str (look kv a), S) := by
  simp only [ixD, h]
  rw [if_pos ⟨rfl, keys_ok⟩, (findK_look ha).1]
def GoodP (ss : List Char) (p : List Char × List Char) : Prop := (∃ c ∈ ss, p.1 = [c]) ∧ p.1 ≠ p.2 ∧ (p.2 = [] ∨ ∃ c ∈ ss, p.2 = [c])
structure GoodKv (ss : List Char) (kv : Kv) : Prop where
  nd : (kv.map (·.1)).Nodup
  ok : ∀ p ∈ kv, GoodP ss p
def GoodCh (ss : List Char) (ch : Kv) : Prop := (∃ c ∈ ss, ch = [([], [c])]) ∨ ch ≠ [] ∧ ch.length ≤ 4 ∧ Rise (ch.map (·.1)) ∧ ∀ p ∈ ch, GoodP ss p
end Z

set_option Elab.async false
set_option linter.all false
set_option maxRecDepth 100000
set_option maxHeartbeats 4000000
namespace Z
open PySem L2 PySem.Spec PyProof.Rows
local macro_rules
  | `(tactic| wp_walk using w_stp) => `(tactic| simp only [w_okb, w_bb, w_var, w_con, w_glo, w_tup, w_lst, w_dct, w_bin, w_not, w_and, w_or, w_cmp, w_chain, w_ix, w_call, w_fld, w_new, w_meth, w_noneD, w_setf, w_blt, w_mth, w_comp, w_sl, w_rev, w_neg, w_nil, w_cons, w_and1, w_and2, w_or1, w_or2, w_asg, w_exp, w_ret, w_anm, w_asub, w_orv, w_dcn0, w_dcn1, w_whl, w_callv, w_wipe1, w_wipe2, Ok.ok_iff, subTy, List.getElem?_cons_zero, List.getElem?_cons_succ, List.set_cons_succ, List.set_cons_zero, if_true, Bool.false_eq_true, if_false, Option.map_some, Bool.not_true, Bool.not_false, Bool.true_or, Bool.or_true, Bool.false_or, Bool.or_false, Bool.true_and, Bool.and_true, Bool.false_and, Bool.and_false, eq_self, decide_true, decide_false, beq_self_eq_true, of_some, litD_f, litD_t, bin_add, bin_sub, bin_band, cmp_lti, cmp_lts, cmp_le, cmp_gt, cmp_ge, cmp_none, cmp_nnone, cmp_true, cmp_ntrue, ofB_some, cmp_in, cmp_nin, nonD_non, nonD_s, nonD_t, nonD_i, nonD_l, nonD_r, nonD_b, nonD_x, deref_s, deref_t, deref_l, deref_i, deref_b, deref_n, ok_s, ok_i, ok_b, ok_n, mem_s, flat_s, flat_i, flat_b, flat_n, ix_s, ix_t, ix_l, items_t, items_l, len_s, len_t2, len_t4, len_l, tuple_s, tuple_t, tuple_l, list_s, list_t, list_l, blt_max, blt_min, blt_all, blt_any, ty_s, ty_t, ty_l, ty_i, ty_b, ty_n, rec_join, rec_idx, rec_idxT, tupOnly_t, blt_int1, rec_idxLl, it_s, it_en, it_t, it_l, compI_sq, forI_sq, bind1, rev_s, rev_t, rev_l, blt_inrg, blt_ninrg, rec_upr, bind2, sl_t, sl_s, sl_l, part_i, eq_ss, eq_ii, eq_bb, eq_tn, eq_tc, eq_tc0, eq_t0c, in_nil, in_cons, in_strs, in_sgn, flat_map, all_true, cmp_eq_ii, cmp_eq_ss, cmp_eq_bb, cmp_ne_ii, cmp_ne_ss, bin_shrn, mem_strs, mem_strl, atI_0, atI_1, atI_2, atI_3])
  | `(tactic| wp_walk using w_stp, $[$ts:term],*) => `(tactic| simp only [w_okb, w_bb, w_var, w_con, w_glo, w_tup, w_lst, w_dct, w_bin, w_not, w_and, w_or, w_cmp, w_chain, w_ix, w_call, w_fld, w_new, w_meth, w_noneD, w_setf, w_blt, w_mth, w_comp, w_sl, w_rev, w_neg, w_nil, w_cons, w_and1, w_and2, w_or1, w_or2, w_asg, w_exp, w_ret, w_anm, w_asub, w_orv, w_dcn0, w_dcn1, w_whl, w_callv, w_wipe1, w_wipe2, Ok.ok_iff, subTy, List.getElem?_cons_zero, List.getElem?_cons_succ, List.set_cons_succ, List.set_cons_zero, if_true, Bool.false_eq_true, if_false, Option.map_some, Bool.not_true, Bool.not_false, Bool.true_or, Bool.or_true, Bool.false_or, Bool.or_false, Bool.true_and, Bool.and_true, Bool.false_and, Bool.and_false, eq_self, decide_true, decide_false, beq_self_eq_true, of_some, litD_f, litD_t, bin_add, bin_sub, bin_band, cmp_lti, cmp_lts, cmp_le, cmp_gt, cmp_ge, cmp_none, cmp_nnone, cmp_true, cmp_ntrue, ofB_some, cmp_in, cmp_nin, nonD_non, nonD_s, nonD_t, nonD_i, nonD_l, nonD_r, nonD_b, nonD_x, deref_s, deref_t, deref_l, deref_i, deref_b, deref_n, ok_s, ok_i, ok_b, ok_n, mem_s, flat_s, flat_i, flat_b, flat_n, ix_s, ix_t, ix_l, items_t, items_l, len_s, len_t2, len_t4, len_l, tuple_s, tuple_t, tuple_l, list_s, list_t, list_l, blt_max, blt_min, blt_all, blt_any, ty_s, ty_t, ty_l, ty_i, ty_b, ty_n, rec_join, rec_idx, rec_idxT, tupOnly_t, blt_int1, rec_idxLl, it_s, it_en, it_t, it_l, compI_sq, forI_sq, bind1, rev_s, rev_t, rev_l, blt_inrg, blt_ninrg, rec_upr, bind2, sl_t, sl_s, sl_l, part_i, eq_ss, eq_ii, eq_bb, eq_tn, eq_tc, eq_tc0, eq_t0c, in_nil, in_cons, in_strs, in_sgn, flat_map, all_true, cmp_eq_ii, cmp_eq_ss, cmp_eq_bb, cmp_ne_ii, cmp_ne_ss, bin_shrn, mem_strs, mem_strl, atI_0, atI_1, atI_2, atI_3, $[$ts:term],*])
def chgB : List Z.S := [.asg (.nm 4) (.ix (.var 1) (.call "_law_take" [.var 0, .blt false .len [.var 1]])),
      .asg (.nm 5) (.comp false [6] [6] true .sq [.bin .add (.blt false .list [.var 1]) (.lst false [.con (.str [])])] (.cmp .ne (.var 6) (.var 4)) (.var 6)),
      .asg (.sub (.var 2) (.var 4)) (.ix (.var 5) (.call "_law_take" [.var 0, .blt false .len [.var 5]]))]
def sx (ss : List Char) : List (List Char) := (ss.map fun c => [c]) ++ [[]]
theorem atI_get {A : Type} {xs : List A} {r : Nat} (h : r < xs.length) : ∃ x ∈ xs, atI xs (r : Int) = some x := by
  rw [atI_n, List.getElem?_eq_getElem h]
  exact ⟨_, List.getElem_mem h, rfl⟩
def Fo (G : Ctx) (i : Nat) (b : List Z.S) (k : IK) (ρ : Env) (Q : Fl × Env × Store → Prop) (p : List D × Store) : Prop := ∃ ds, itrD k p.1 p.2 = .ok (.sq ds) ∧ Ok (forL (fun d ρ s => evSs G b (ρ.set i (some d)) s) ds ρ p.2) Q
theorem fo_ {G : Ctx} {i : Nat} {b : List Z.S} {k : IK} {ρ : Env} {Q : Fl × Env × Store → Prop} {xs ds : List D} {S : Store} (h1 : itrD k xs S = .ok (.sq ds)) (h2 : Ok (forL (fun d ρ s => evSs G b (ρ.set i (some d)) s) ds ρ S) Q) : Fo G i b k ρ Q (xs, S) := ⟨ds, h1, h2⟩
theorem fo_ok {G : Ctx} {i : Nat} {b : List Z.S} {k : IK} {its : List E} {ρ : Env} {S : Store} {Q : Fl × Env × Store → Prop} (h : Ok (evEs G its ρ S) (Fo G i b k ρ Q)) : Ok (evS G (.fo [i] true k its b) ρ S) Q := by
  obtain ⟨⟨xs, S'⟩, e, ds, h1, h2⟩ := h
  rw [fo1 e h1]
  exact h2
/-! rules -/
structure Rule where
  how : List Char
  ch : Kv
  l : Option (List Char)
  r : Option (List Char)
def ruleD (R : Rule) : D := .tup [.str R.how, .tup (R.ch.map chD), sgnD R.l, sgnD R.r]
def ways : List (List Char) := [['o', 'n', 'c', 'e'], ['a', 'l', 'o', 'n', 'g']]
structure GoodR (ss : List Char) (R : Rule) : Prop where
  how : R.how ∈ ways
  ch : GoodCh ss R.ch
  l : GoodSg ss R.l
  r : GoodSg ss R.r
end Z

set_option Elab.async false
set_option linter.all false
set_option maxRecDepth 100000
set_option maxHeartbeats 4000000
namespace Z
open PySem L2 PySem.Spec PyProof.Rows
local macro_rules
  | `(tactic| wp_walk using w_stp) => `(tactic| simp only [w_okb, w_bb, w_var, w_con, w_glo, w_tup, w_lst, w_dct, w_bin, w_not, w_and, w_or, w_cmp, w_chain, w_ix, w_call, w_fld, w_new, w_meth, w_noneD, w_setf, w_blt, w_mth, w_comp, w_sl, w_rev, w_neg, w_nil, w_cons, w_and1, w_and2, w_or1, w_or2, w_asg, w_exp, w_ret, w_anm, w_asub, w_orv, w_dcn0, w_dcn1, w_whl, w_callv, w_wipe1, w_wipe2, Ok.ok_iff, subTy, List.getElem?_cons_zero, List.getElem?_cons_succ, List.set_cons_succ, List.set_cons_zero, if_true, Bool.false_eq_true, if_false, Option.map_some, Bool.not_true, Bool.not_false, Bool.true_or, Bool.or_true, Bool.false_or, Bool.or_false, Bool.true_and, Bool.and_true, Bool.false_and, Bool.and_false, eq_self, decide_true, decide_false, beq_self_eq_true, of_some, litD_f, litD_t, bin_add, bin_sub, bin_band, cmp_lti, cmp_lts, cmp_le, cmp_gt, cmp_ge, cmp_none, cmp_nnone, cmp_true, cmp_ntrue, ofB_some, cmp_in, cmp_nin, nonD_non, nonD_s, nonD_t, nonD_i, nonD_l, nonD_r, nonD_b, nonD_x, deref_s, deref_t, deref_l, deref_i, deref_b, deref_n, ok_s, ok_i, ok_b, ok_n, mem_s, flat_s, flat_i, flat_b, flat_n, ix_s, ix_t, ix_l, items_t, items_l, len_s, len_t2, len_t4, len_l, tuple_s, tuple_t, tuple_l, list_s, list_t, list_l, blt_max, blt_min, blt_all, blt_any, ty_s, ty_t, ty_l, ty_i, ty_b, ty_n, rec_join, rec_idx, rec_idxT, tupOnly_t, blt_int1, rec_idxLl, it_s, it_en, it_t, it_l, compI_sq, forI_sq, bind1, rev_s, rev_t, rev_l, blt_inrg, blt_ninrg, rec_upr, bind2, sl_t, sl_s, sl_l, part_i, eq_ss, eq_ii, eq_bb, eq_tn, eq_tc, eq_tc0, eq_t0c, in_nil, in_cons, in_strs, in_sgn, flat_map, all_true, cmp_eq_ii, cmp_eq_ss, cmp_eq_bb, cmp_ne_ii, cmp_ne_ss, bin_shrn, mem_strs, mem_strl, atI_0, atI_1, atI_2, atI_3])
  | `(tactic| wp_walk using w_stp, $[$ts:term],*) => `(tactic| simp only [w_okb, w_bb, w_var, w_con, w_glo, w_tup, w_lst, w_dct, w_bin, w_not, w_and, w_or, w_cmp, w_chain, w_ix, w_call, w_fld, w_new, w_meth, w_noneD, w_setf, w_blt, w_mth, w_comp, w_sl, w_rev, w_neg, w_nil, w_cons, w_and1, w_and2, w_or1, w_or2, w_asg, w_exp, w_ret, w_anm, w_asub, w_orv, w_dcn0, w_dcn1, w_whl, w_callv, w_wipe1, w_wipe2, Ok.ok_iff, subTy, List.getElem?_cons_zero, List.getElem?_cons_succ, List.set_cons_succ, List.set_cons_zero, if_true, Bool.false_eq_true, if_false, Option.map_some, Bool.not_true, Bool.not_false, Bool.true_or, Bool.or_true, Bool.false_or, Bool.or_false, Bool.true_and, Bool.and_true, Bool.false_and, Bool.and_false, eq_self, decide_true, decide_false, beq_self_eq_true, of_some, litD_f, litD_t, bin_add, bin_sub, bin_band, cmp_lti, cmp_lts, cmp_le, cmp_gt, cmp_ge, cmp_none, cmp_nnone, cmp_true, cmp_ntrue, ofB_some, cmp_in, cmp_nin, nonD_non, nonD_s, nonD_t, nonD_i, nonD_l, nonD_r, nonD_b, nonD_x, deref_s, deref_t, deref_l, deref_i, deref_b, deref_n, ok_s, ok_i, ok_b, ok_n, mem_s, flat_s, flat_i, flat_b, flat_n, ix_s, ix_t, ix_l, items_t, items_l, len_s, len_t2, len_t4, len_l, tuple_s, tuple_t, tuple_l, list_s, list_t, list_l, blt_max, blt_min, blt_all, blt_any, ty_s, ty_t, ty_l, ty_i, ty_b, ty_n, rec_join, rec_idx, rec_idxT, tupOnly_t, blt_int1, rec_idxLl, it_s, it_en, it_t, it_l, compI_sq, forI_sq, bind1, rev_s, rev_t, rev_l, blt_inrg, blt_ninrg, rec_upr, bind2, sl_t, sl_s, sl_l, part_i, eq_ss, eq_ii, eq_bb, eq_tn, eq_tc, eq_tc0, eq_t0c, in_nil, in_cons, in_strs, in_sgn, flat_map, all_true, cmp_eq_ii, cmp_eq_ss, cmp_eq_bb, cmp_ne_ii, cmp_ne_ss, bin_shrn, mem_strs, mem_strl, atI_0, atI_1, atI_2, atI_3, $[$ts:term],*])
theorem gl_EDGE : pg.glo "EDGE" = some (.str ['#']) := by kernel_rfl
def fitB : Option (List Char) → Char → Bool
  | none, _ => true
  | some cs, c => decide (c ∈ cs)
theorem mem_sD {S : Store} {c : Char} {cs : List Char} : memD S (.str [c]) (.tup (cs.map sD)) = some (decide (c ∈ cs)) := by
  rw [mem_t, if_pos ⟨rfl, by rw [flat_map]; exact all_true⟩]
  exact congrArg some in_sgn
theorem e_fits {k : Nat} {S : Store} {sg : Option (List Char)} {c : Char} : callF pg (k + 1) "fits" [sgnD sg, .str [c]] S = .ok (.bl (fitB sg c), S) := by
  refine eq_ok (call_ok (ρ := [some (sgnD sg), some (.str [c])]) fn_c_fits rfl rfl (ss_cons ?_))
  cases sg with
  | none =>
    (wp_walk using w_stp, sgnD)
    exact nrt (rt rfl)
  | some cs =>
    (wp_walk using w_stp, sgnD, mem_sD)
    exact nrt (rt rfl)
def turnR (R : Rule) : Rule := ⟨R.how, R.ch, R.r, R.l⟩
theorem e_turned {k : Nat} {S : Store} {R : Rule} : callF pg (k + 1) "turned" [ruleD R] S = .ok (ruleD (turnR R), S) := by
  refine eq_ok (call_ok (ρ := [some (ruleD R)]) fn_c_turned rfl rfl (ss_cons ?_))
  (wp_walk using w_stp, ruleD)
  exact nrt (rt rfl)
def sds (st : Stk) : List (List Char) := st.map fun p => [p.1]
theorem e_sounds_of' {k : Nat} {S : Store} {st : Stk} : callF pg (k + 1) "sounds_of" [stockD st] S = .ok (.tup ((sds st).map .str), S) := by
  rw [e_sounds_of, sds, List.map_map]
  rfl
end Z

set_option Elab.async false
set_option linter.all false
set_option maxRecDepth 100000
set_option maxHeartbeats 4000000
namespace Z
open PySem L2 PySem.Spec PyProof.Rows
/-! P1: what a rule makes of a word: plain -/
def gapW (l r : Option (List Char)) (x : List Char) (a z : Char) : List Char := if fitB l a && fitB r z then x else []
def putG (l r : Option (List Char)) (x : List Char) : Char → List Char → Char → List Char
  | a, [], z => gapW l r x a z
  | a, c :: cs, z => gapW l r x a c ++ c :: putG l r x c cs z
def putF (l r : Option (List Char)) (x : List Char) : Char → List Char → List Char
  | _, [] => []
  | a, c :: cs => gapW l r x a c ++ (if c = '#' then [] else [c]) ++ putF l r x c cs
def stepC (kv : Kv) (l r : Option (List Char)) (a c b : Char) : List Char := if decide ([c] ∈ kv.map (·.1)) && fitB l a && fitB r b then look kv [c] else [c]
def nearC (al : Bool) (prev o : Char) : Char := if al then o else prev
def repG (al : Bool) (kv : Kv) (l r : Option (List Char)) : Char → Char → List Char → List Char
  | _, _, [] => []
  | prev, o, c :: cs => stepC kv l r (nearC al prev o) c (cs.headD '#') ++ repG al kv l r c ((stepC kv l r (nearC al prev o) c (cs.headD '#')).getLastD o) cs
def repO (kv : Kv) (l r : Option (List Char)) : Char → List Char → Char → List Char
  | _, [], _ => []
  | a, c :: cs, z => stepC kv l r a c (cs.headD z) ++ repO kv l r c cs z
theorem repG_free (al : Bool) (kv : Kv) (r : Option (List Char)) : ∀ (w : List Char) (a o : Char), repG al kv none r a o w = repO kv none r a w '#'
  | [], _, _ => rfl
  | c :: cs, a, o => by
    rw [repG, repO, repG_free al kv r cs c _]
    rfl
def Ones (kv : Kv) : Prop := ∀ a, a ∈ kv.map (·.1) → (look kv a).length ≤ 1
theorem step_len {kv : Kv} (h : Ones kv) (l r : Option (List Char)) (a c b : Char) : (stepC kv l r a c b).length ≤ 1 := by
  unfold stepC
  split
  · rename_i q
    simp only [Bool.and_eq_true, decide_eq_true_eq] at q
    exact h _ q.1.1
  · exact Nat.le_refl _
theorem rev_le1 {x : List Char} (h : x.length ≤ 1) : x.reverse = x := by
  match x, h with
  | [], _ => rfl
  | [_], _ => rfl
  | _ :: _ :: _, h => simp at h
/-! rules -/
def isPut (R : Rule) : Bool := match R.ch with
  | (a, _) :: _ => decide (a = [])
  | [] => false
def putTx (R : Rule) : List Char := match R.ch with
  | (_, b) :: _ => b
  | [] => []
def isAl (R : Rule) : Bool := decide (R.how = ['a', 'l', 'o', 'n', 'g'])
def chgL (R : Rule) (w : List Char) : List Char := if isPut R then putG R.l R.r (putTx R) '#' w '#' else repG (isAl R) R.ch R.l R.r '#' '#' w
def chgS (right : Bool) (R : Rule) (w : List Char) : List Char := if right then (chgL (turnR R) w.reverse).reverse else chgL R w
structure Fine (R : Rule) : Prop where
  put : isPut R = true → (putTx R).length = 1
  one : isPut R = false → Ones R.ch
  ne : R.ch ≠ []
  nd : (R.ch.map (·.1)).Nodup
  len : R.ch.length ≤ 4
  sh : ∀ p ∈ R.ch, p.2.length ≤ 1
theorem rise_nodup {xs : List (List Char)} (h : Rise xs) : xs.Nodup := by
  refine List.Pairwise.imp ?_ h
  intro a b q e
  subst e
  rw [ltS_irr] at q
  cases q
theorem fine_of {ss : List Char} {R : Rule} (g : GoodCh ss R.ch) : Fine R := by
  rcases g with ⟨c, hc, e⟩ | ⟨h1, h2, h3, h4⟩
  · refine ⟨fun _ => ?_, fun h => ?_, ?_, ?_, ?_, ?_⟩
    · unfold putTx; rw [e]; rfl
    · unfold isPut at h; rw [e] at h; simp at h
    · rw [e]; simp
    · rw [e]; simp
    · rw [e]; simp
    · rw [e]
      intro p hp
      rw [List.mem_singleton.mp hp]
      exact Nat.le_refl _
  · have sh : ∀ p ∈ R.ch, p.2.length ≤ 1 := fun p hp => by
      rcases (h4 p hp).2.2 with e | ⟨c, _, e⟩ <;> rw [e] <;> simp
    refine ⟨fun h => ?_, fun _ a ha => ?_, h1, rise_nodup h3, h2, sh⟩
    · unfold isPut at h
      cases e : R.ch with
      | nil => exact absurd e h1
      | cons p q =>
        rw [e] at h
        obtain ⟨c, _, ec⟩ := (h4 p (by rw [e]; simp)).1
        obtain ⟨a, b⟩ := p
        have ec : a = [c] := ec
        simp [ec] at h
    · exact sh _ (findK_look ha).2
theorem Fine.turn {R : Rule} (h : Fine R) : Fine (turnR R) := ⟨h.put, h.one, h.ne, h.nd, h.len, h.sh⟩
end Z

set_option Elab.async false
set_option linter.all false
set_option maxRecDepth 100000
set_option maxHeartbeats 4000000
namespace Z
open PySem L2 PySem.Spec PyProof.Rows
local macro_rules
  | `(tactic| wp_walk using w_stp) => `(tactic| simp only [w_okb, w_bb, w_var, w_con, w_glo, w_tup, w_lst, w_dct, w_bin, w_not, w_and, w_or, w_cmp, w_chain, w_ix, w_call, w_fld, w_new, w_meth, w_noneD, w_setf, w_blt, w_mth, w_comp, w_sl, w_rev, w_neg, w_nil, w_cons, w_and1, w_and2, w_or1, w_or2, w_asg, w_exp, w_ret, w_anm, w_asub, w_orv, w_dcn0, w_dcn1, w_whl, w_callv, w_wipe1, w_wipe2, Ok.ok_iff, subTy, List.getElem?_cons_zero, List.getElem?_cons_succ, List.set_cons_succ, List.set_cons_zero, if_true, Bool.false_eq_true, if_false, Option.map_some, Bool.not_true, Bool.not_false, Bool.true_or, Bool.or_true, Bool.false_or, Bool.or_false, Bool.true_and, Bool.and_true, Bool.false_and, Bool.and_false, eq_self, decide_true, decide_false, beq_self_eq_true, of_some, litD_f, litD_t, bin_add, bin_sub, bin_band, cmp_lti, cmp_lts, cmp_le, cmp_gt, cmp_ge, cmp_none, cmp_nnone, cmp_true, cmp_ntrue, ofB_some, cmp_in, cmp_nin, nonD_non, nonD_s, nonD_t, nonD_i, nonD_l, nonD_r, nonD_b, nonD_x, deref_s, deref_t, deref_l, deref_i, deref_b, deref_n, ok_s, ok_i, ok_b, ok_n, mem_s, flat_s, flat_i, flat_b, flat_n, ix_s, ix_t, ix_l, items_t, items_l, len_s, len_t2, len_t4, len_l, tuple_s, tuple_t, tuple_l, list_s, list_t, list_l, blt_max, blt_min, blt_all, blt_any, ty_s, ty_t, ty_l, ty_i, ty_b, ty_n, rec_join, rec_idx, rec_idxT, tupOnly_t, blt_int1, rec_idxLl, it_s, it_en, it_t, it_l, compI_sq, forI_sq, bind1, rev_s, rev_t, rev_l, blt_inrg, blt_ninrg, rec_upr, bind2, sl_t, sl_s, sl_l, part_i, eq_ss, eq_ii, eq_bb, eq_tn, eq_tc, eq_tc0, eq_t0c, in_nil, in_cons, in_strs, in_sgn, flat_map, all_true, cmp_eq_ii, cmp_eq_ss, cmp_eq_bb, cmp_ne_ii, cmp_ne_ss, bin_shrn, mem_strs, mem_strl, atI_0, atI_1, atI_2, atI_3])
  | `(tactic| wp_walk using w_stp, $[$ts:term],*) => `(tactic| simp only [w_okb, w_bb, w_var, w_con, w_glo, w_tup, w_lst, w_dct, w_bin, w_not, w_and, w_or, w_cmp, w_chain, w_ix, w_call, w_fld, w_new, w_meth, w_noneD, w_setf, w_blt, w_mth, w_comp, w_sl, w_rev, w_neg, w_nil, w_cons, w_and1, w_and2, w_or1, w_or2, w_asg, w_exp, w_ret, w_anm, w_asub, w_orv, w_dcn0, w_dcn1, w_whl, w_callv, w_wipe1, w_wipe2, Ok.ok_iff, subTy, List.getElem?_cons_zero, List.getElem?_cons_succ, List.set_cons_succ, List.set_cons_zero, if_true, Bool.false_eq_true, if_false, Option.map_some, Bool.not_true, Bool.not_false, Bool.true_or, Bool.or_true, Bool.false_or, Bool.or_false, Bool.true_and, Bool.and_true, Bool.false_and, Bool.and_false, eq_self, decide_true, decide_false, beq_self_eq_true, of_some, litD_f, litD_t, bin_add, bin_sub, bin_band, cmp_lti, cmp_lts, cmp_le, cmp_gt, cmp_ge, cmp_none, cmp_nnone, cmp_true, cmp_ntrue, ofB_some, cmp_in, cmp_nin, nonD_non, nonD_s, nonD_t, nonD_i, nonD_l, nonD_r, nonD_b, nonD_x, deref_s, deref_t, deref_l, deref_i, deref_b, deref_n, ok_s, ok_i, ok_b, ok_n, mem_s, flat_s, flat_i, flat_b, flat_n, ix_s, ix_t, ix_l, items_t, items_l, len_s, len_t2, len_t4, len_l, tuple_s, tuple_t, tuple_l, list_s, list_t, list_l, blt_max, blt_min, blt_all, blt_any, ty_s, ty_t, ty_l, ty_i, ty_b, ty_n, rec_join, rec_idx, rec_idxT, tupOnly_t, blt_int1, rec_idxLl, it_s, it_en, it_t, it_l, compI_sq, forI_sq, bind1, rev_s, rev_t, rev_l, blt_inrg, blt_ninrg, rec_upr, bind2, sl_t, sl_s, sl_l, part_i, eq_ss, eq_ii, eq_bb, eq_tn, eq_tc, eq_tc0, eq_t0c, in_nil, in_cons, in_strs, in_sgn, flat_map, all_true, cmp_eq_ii, cmp_eq_ss, cmp_eq_bb, cmp_ne_ii, cmp_ne_ss, bin_shrn, mem_strs, mem_strl, atI_0, atI_1, atI_2, atI_3, $[$ts:term],*])
/-! P2: the program's changing -/
def Gr (S S' : Store) : Prop := ∃ T, S' = S ++ T
theorem Gr.refl {S : Store} : Gr S S := ⟨[], by simp⟩
theorem Gr.trans {S S' S'' : Store} (a : Gr S S') (b : Gr S' S'') : Gr S S'' := by
  obtain ⟨T, rfl⟩ := a
  obtain ⟨T', rfl⟩ := b
  exact ⟨T ++ T', by rw [List.append_assoc]⟩
theorem Gr.push {S : Store} {o : O} : Gr S (S ++ [o]) := ⟨[o], rfl⟩
theorem Gr.get {S S' : Store} {m : Nat} {o : O} (g : Gr S S') (h : S[m]? = some o) : S'[m]? = some o := by
  obtain ⟨T, rfl⟩ := g
  rw [List.getElem?_append_left (List.getElem?_eq_some_iff.mp h).1]
  exact h
theorem Gr.pk {S S' : Store} {n : Nat} (g : Gr S S') (h : Pk n S) : Pk n S' := by
  obtain ⟨N, e⟩ := h
  exact ⟨N, g.get e⟩
theorem Gr.fr {S S' : Store} {n : Nat} (g : Gr S S') (h : Pk n S) : Fr1 n S S' := by
  refine ⟨g.pk h, ?_, fun m h1 h2 => ?_⟩
  · obtain ⟨T, rfl⟩ := g
    simp
  · obtain ⟨T, rfl⟩ := g
    rw [List.getElem?_append_left h2]
theorem signs_split {xs : List Char} {pre : List D} {d : D} {post : List D} (e : xs.map (fun c => D.str [c]) = pre ++ d :: post) : ∃ p c q, xs = p ++ c :: q ∧ pre = p.map (fun c => D.str [c]) ∧ d = .str [c] ∧ post = q.map (fun c => D.str [c]) := by
  obtain ⟨p, q', e1, e2, e3⟩ := List.map_eq_append_iff.mp e
  obtain ⟨c, q, e4, e5, e6⟩ := List.map_eq_cons_iff.mp e3
  exact ⟨p, c, q, by rw [e1, e4], e2.symm, e5.symm, e6.symm⟩
def putB : List Z.S := [.ite (.and [.call "fits" [.ix (.var 0) (.con (.int 2)), .var 3], .call "fits" [.ix (.var 0) (.con (.int 3)), .var 4]]) [.asg (.nm 2) (.bin .add (.var 2) (.ix (.ix (.ix (.var 0) (.con (.int 1))) (.con (.int 0))) (.con (.int 1))))] [],
      .ite (.cmp .ne (.var 4) (.glo "EDGE")) [.asg (.nm 2) (.bin .add (.var 2) (.var 4))] [],
      .asg (.nm 3) (.var 4)]
end Z

set_option Elab.async false
set_option linter.all false
set_option maxRecDepth 100000
set_option maxHeartbeats 4000000
namespace Z
open PySem L2 PySem.Spec PyProof.Rows
theorem cut_take {A : Type} (xs : List A) (j : Nat) : cut xs none (some (j : Int)) = xs.take j := by
  unfold cut
  show (xs.drop 0).take (HT.sIx xs.length xs.length (some ((j : Nat) : Int)) - 0) = _
  rw [HT.sIx_nat, List.drop_zero, Nat.sub_zero]
  by_cases h : j ≤ xs.length
  · rw [Nat.min_eq_left h]
  · rw [Nat.min_eq_right (by omega), List.take_length, List.take_of_length_le (by omega)]
theorem dictD_kv : ∀ (ch kv : Kv), (kv.map (·.1) ++ ch.map (·.1)).Nodup → kv.length + ch.length ≤ 1000 → dictD (ch.map chD) (kv.map kD) (kv.map vD) = some ((kv ++ ch).map kD, (kv ++ ch).map vD)
  | [], kv, _, _ => by simp [dictD]
  | (a, b) :: ch, kv, h, hl => by
    have hn : a ∉ kv.map (·.1) := fun q => by
      have := (List.nodup_append.mp h).2.2 a q a (by simp)
      exact this rfl
    have ep : put kv a b = kv ++ [(a, b)] := by unfold put; rw [if_neg hn]
    rw [List.map_cons]
    show (if keyOk (.str a) ∧ (kv.map kD).length < sizeLine then dictD (ch.map chD) (putK (kv.map kD) (kv.map vD) (.str a) (.str b)).1 (putK (kv.map kD) (kv.map vD) (.str a) (.str b)).2 else none) = _
    rw [List.length_cons] at hl
    rw [if_pos ⟨rfl, by rw [List.length_map, sizeL]; omega⟩, putK_map, ep]
    have h2 : ((kv ++ [(a, b)]).map (·.1) ++ ch.map (·.1)).Nodup := by simpa using h
    rw [dictD_kv ch (kv ++ [(a, b)]) h2 (by rw [List.length_append, List.length_singleton]; omega), List.append_assoc]
    rfl
theorem mem_dct {S : Store} {m : Nat} {kv : Kv} {a : List Char} (h : S[m]? = some (.dct (kv.map kD) (kv.map vD))) : memD S (.str a) (.ref m) = some (decide (a ∈ kv.map (·.1))) := by
  simp only [memD, h]
  rw [if_pos ⟨rfl, keys_ok⟩, inD_keys]
def repB : List Z.S := [.asg (.nm 5) (.ix (.var 1) (.var 4)),
      .asg (.nm 6) (.ix (.bin .add (.var 1) (.glo "EDGE")) (.bin .add (.var 4) (.con (.int 1)))),
      .ite (.and [.cmp .isIn (.var 5) (.var 2), .call "fits" [.ix (.var 0) (.con (.int 2)), .call "near_now" [.var 0, .var 1, .var 4, .var 3]], .call "fits" [.ix (.var 0) (.con (.int 3)), .var 6]]) [.asg (.nm 5) (.ix (.var 2) (.var 5))] [],
      .asg (.nm 3) (.bin .add (.var 3) (.var 5))]
def sideS (right : Bool) : List Char := if right then ['r', 'i', 'g', 'h', 't'] else ['l', 'e', 'f', 't']
end Z

set_option Elab.async false
set_option linter.all false
set_option maxRecDepth 100000
set_option maxHeartbeats 4000000
namespace Z
open PySem L2 PySem.Spec PyProof.Rows
theorem rise_stk {st : Stk} (g : GoodStk st) : Rise (('#' :: st.map (·.1)).map fun c => [c]) ∧ 0 < st.length ∧ st.length ≤ 4 := by
  have h := g.1
  have hl : (st.map (·.1)).length = st.length := List.length_map _
  rw [← hl]
  simp only [List.mem_cons, List.not_mem_nil, or_false] at h
  rcases h with h | h | h | h | h <;> rw [h] <;> exact ⟨by unfold Rise; decide +kernel, by decide, by decide⟩
theorem w_atp {G : Ctx} {ρ : Env} {S : Store} {gs : List Tg} {ds : List D} (h : ds.length = gs.length) : asg G (.tp gs) (.tup ds) ρ S = asgs G gs ds ρ S := by
  simp only [asg]
  rw [if_pos h]
theorem w_asgs {G : Ctx} {ρ : Env} {S : Store} {g : Tg} {gs : List Tg} {d : D} {ds : List D} : asgs G (g :: gs) (d :: ds) ρ S = (asg G g d ρ S).bind fun p => asgs G gs ds p.1 p.2 := by
  simp only [asgs]
theorem w_asgn {G : Ctx} {ρ : Env} {S : Store} : asgs G [] [] ρ S = .ok (ρ, S) := by
  simp only [asgs]
end Z

set_option Elab.async false
set_option linter.all false
set_option maxRecDepth 100000
set_option maxHeartbeats 4000000
namespace Z
open PySem L2 PySem.Spec PyProof.Rows
/-! P5: the law's own changing, place by place -/
def lawF (l r : Option (List Char)) (x : List Char) : Char → List Char → List Char
  | _, [] => []
  | a, c :: cs => gapW l r x a c ++ c :: lawF l r x c cs
def lputB : List Z.S := [.ite (.and [.call "_law_fits" [.ix (.var 0) (.con (.int 2)), .ix (.var 2) (.bin .sub (.var 4) (.con (.int 1)))], .call "_law_fits" [.ix (.var 0) (.con (.int 3)), .ix (.var 2) (.var 4)]]) [.asg (.nm 3) (.bin .add (.var 3) (.ix (.ix (.ix (.var 0) (.con (.int 1))) (.con (.int 0))) (.con (.int 1))))] [],
      .asg (.nm 3) (.bin .add (.var 3) (.ix (.var 2) (.var 4)))]
def lchgB : List Z.S := [.asg (.nm 10) (.ix (.var 3) (.bin .sub (.var 5) (.con (.int 1)))),
      .ite (.cmp .eq (.var 6) (.con (.str ['a', 'l', 'o', 'n', 'g']))) [.asg (.nm 10) (.ix (.var 4) (.neg (.con (.int 1))))] [],
      .ite (.and [.cmp .isIn (.ix (.var 3) (.var 5)) (.var 2), .call "_law_fits" [.var 8, .var 10], .call "_law_fits" [.var 9, .ix (.var 3) (.bin .add (.var 5) (.con (.int 1)))]]) [.asg (.nm 4) (.bin .add (.var 4) (.ix (.var 2) (.ix (.var 3) (.var 5))))] [.asg (.nm 4) (.bin .add (.var 4) (.ix (.var 3) (.var 5)))]]
end Z

set_option Elab.async false
set_option linter.all false
set_option maxRecDepth 100000
set_option maxHeartbeats 4000000
namespace Z
open PySem L2 PySem.Spec PyProof.Rows
local macro_rules
  | `(tactic| wp_walk using w_stp) => `(tactic| simp only [w_okb, w_bb, w_var, w_con, w_glo, w_tup, w_lst, w_dct, w_bin, w_not, w_and, w_or, w_cmp, w_chain, w_ix, w_call, w_fld, w_new, w_meth, w_noneD, w_setf, w_blt, w_mth, w_comp, w_sl, w_rev, w_neg, w_nil, w_cons, w_and1, w_and2, w_or1, w_or2, w_asg, w_exp, w_ret, w_anm, w_asub, w_orv, w_dcn0, w_dcn1, w_whl, w_callv, w_wipe1, w_wipe2, Ok.ok_iff, subTy, List.getElem?_cons_zero, List.getElem?_cons_succ, List.set_cons_succ, List.set_cons_zero, if_true, Bool.false_eq_true, if_false, Option.map_some, Bool.not_true, Bool.not_false, Bool.true_or, Bool.or_true, Bool.false_or, Bool.or_false, Bool.true_and, Bool.and_true, Bool.false_and, Bool.and_false, eq_self, decide_true, decide_false, beq_self_eq_true, of_some, litD_f, litD_t, bin_add, bin_sub, bin_band, cmp_lti, cmp_lts, cmp_le, cmp_gt, cmp_ge, cmp_none, cmp_nnone, cmp_true, cmp_ntrue, ofB_some, cmp_in, cmp_nin, nonD_non, nonD_s, nonD_t, nonD_i, nonD_l, nonD_r, nonD_b, nonD_x, deref_s, deref_t, deref_l, deref_i, deref_b, deref_n, ok_s, ok_i, ok_b, ok_n, mem_s, flat_s, flat_i, flat_b, flat_n, ix_s, ix_t, ix_l, items_t, items_l, len_s, len_t2, len_t4, len_l, tuple_s, tuple_t, tuple_l, list_s, list_t, list_l, blt_max, blt_min, blt_all, blt_any, ty_s, ty_t, ty_l, ty_i, ty_b, ty_n, rec_join, rec_idx, rec_idxT, tupOnly_t, blt_int1, rec_idxLl, it_s, it_en, it_t, it_l, compI_sq, forI_sq, bind1, rev_s, rev_t, rev_l, blt_inrg, blt_ninrg, rec_upr, bind2, sl_t, sl_s, sl_l, part_i, eq_ss, eq_ii, eq_bb, eq_tn, eq_tc, eq_tc0, eq_t0c, in_nil, in_cons, in_strs, in_sgn, flat_map, all_true, cmp_eq_ii, cmp_eq_ss, cmp_eq_bb, cmp_ne_ii, cmp_ne_ss, bin_shrn, mem_strs, mem_strl, atI_0, atI_1, atI_2, atI_3])
  | `(tactic| wp_walk using w_stp, $[$ts:term],*) => `(tactic| simp only [w_okb, w_bb, w_var, w_con, w_glo, w_tup, w_lst, w_dct, w_bin, w_not, w_and, w_or, w_cmp, w_chain, w_ix, w_call, w_fld, w_new, w_meth, w_noneD, w_setf, w_blt, w_mth, w_comp, w_sl, w_rev, w_neg, w_nil, w_cons, w_and1, w_and2, w_or1, w_or2, w_asg, w_exp, w_ret, w_anm, w_asub, w_orv, w_dcn0, w_dcn1, w_whl, w_callv, w_wipe1, w_wipe2, Ok.ok_iff, subTy, List.getElem?_cons_zero, List.getElem?_cons_succ, List.set_cons_succ, List.set_cons_zero, if_true, Bool.false_eq_true, if_false, Option.map_some, Bool.not_true, Bool.not_false, Bool.true_or, Bool.or_true, Bool.false_or, Bool.or_false, Bool.true_and, Bool.and_true, Bool.false_and, Bool.and_false, eq_self, decide_true, decide_false, beq_self_eq_true, of_some, litD_f, litD_t, bin_add, bin_sub, bin_band, cmp_lti, cmp_lts, cmp_le, cmp_gt, cmp_ge, cmp_none, cmp_nnone, cmp_true, cmp_ntrue, ofB_some, cmp_in, cmp_nin, nonD_non, nonD_s, nonD_t, nonD_i, nonD_l, nonD_r, nonD_b, nonD_x, deref_s, deref_t, deref_l, deref_i, deref_b, deref_n, ok_s, ok_i, ok_b, ok_n, mem_s, flat_s, flat_i, flat_b, flat_n, ix_s, ix_t, ix_l, items_t, items_l, len_s, len_t2, len_t4, len_l, tuple_s, tuple_t, tuple_l, list_s, list_t, list_l, blt_max, blt_min, blt_all, blt_any, ty_s, ty_t, ty_l, ty_i, ty_b, ty_n, rec_join, rec_idx, rec_idxT, tupOnly_t, blt_int1, rec_idxLl, it_s, it_en, it_t, it_l, compI_sq, forI_sq, bind1, rev_s, rev_t, rev_l, blt_inrg, blt_ninrg, rec_upr, bind2, sl_t, sl_s, sl_l, part_i, eq_ss, eq_ii, eq_bb, eq_tn, eq_tc, eq_tc0, eq_t0c, in_nil, in_cons, in_strs, in_sgn, flat_map, all_true, cmp_eq_ii, cmp_eq_ss, cmp_eq_bb, cmp_ne_ii, cmp_ne_ss, bin_shrn, mem_strs, mem_strl, atI_0, atI_1, atI_2, atI_3, $[$ts:term],*])
/-! P6: orders, walks -/
def ordD (b : Bool) (Rs : List Rule) : D := .tup [.str (sideS b), .tup (Rs.map ruleD)]
def Over (ss w : List Char) : Prop := ∀ c ∈ w, c ∈ ss
def GR (ss : List Char) (R : Rule) : Prop := Fine R ∧ ∀ p ∈ R.ch, Over ss p.2
theorem gr_of {ss : List Char} {R : Rule} (g : GoodR ss R) : GR ss R := by
  refine ⟨fine_of g.ch, fun p hp => ?_⟩
  rcases g.ch with ⟨c, hc, e⟩ | ⟨_, _, _, h4⟩
  · rw [e] at hp
    rw [List.mem_singleton.mp hp]
    intro x hx
    rw [List.mem_singleton.mp hx]
    exact hc
  · rcases (h4 p hp).2.2 with e | ⟨c, hc, e⟩
    · rw [e]
      exact fun _ h => nomatch h
    · rw [e]
      intro x hx
      rw [List.mem_singleton.mp hx]
      exact hc
theorem Over.app {ss x y : List Char} (a : Over ss x) (b : Over ss y) : Over ss (x ++ y) := fun c h => (List.mem_append.mp h).elim (a c) (b c)
theorem Over.rev {ss x : List Char} (a : Over ss x) : Over ss x.reverse := fun c h => a c (List.mem_reverse.mp h)
theorem Over.nil {ss : List Char} : Over ss [] := fun _ h => nomatch h
theorem Over.one {ss : List Char} {c : Char} (h : c ∈ ss) : Over ss [c] := fun x hx => by rw [List.mem_singleton.mp hx]; exact h
theorem Over.no {ss w : List Char} (h : '#' ∉ ss) (a : Over ss w) : '#' ∉ w := fun q => h (a _ q)
theorem GR.turn {ss : List Char} {R : Rule} (g : GR ss R) : GR ss (turnR R) := ⟨g.1.turn, g.2⟩
def walkS (b : Bool) : List Char → List Rule → List (List Char)
  | w, [] => [w]
  | w, R :: Rs => w :: walkS b (chgS b R w) Rs
def madeS (b : Bool) (w : List Char) (Rs : List Rule) : List Char := Rs.foldl (fun w R => chgS b R w) w
theorem Gr.late {S S' : Store} {m : Nat} {o : O} (g : Gr S S') (h : S.length ≤ m) : Gr S (S'.set m o) := by
  obtain ⟨T, rfl⟩ := g
  exact ⟨T.set (m - S.length) o, by rw [List.set_append_right _ _ h]⟩
theorem Gr.len {S S' : Store} (g : Gr S S') : S.length ≤ S'.length := by
  obtain ⟨T, rfl⟩ := g
  simp
theorem Gr.lt {S S' : Store} {m : Nat} {o : O} (g : Gr S S') (h : S[m]? = some o) : m < S'.length := (List.getElem?_eq_some_iff.mp (g.get h)).1
def walkB (f : Str) : List Z.S := [.exp (.mth .append (.var 2) [.call f [.ix (.var 0) (.con (.int 0)), .var 3, .ix (.var 2) (.neg (.con (.int 1)))]])]
end Z

set_option Elab.async false
set_option linter.all false
set_option maxRecDepth 100000
set_option maxHeartbeats 4000000
namespace Z
open PySem L2 PySem.Spec PyProof.Rows
/-! P7: standings -/
abbrev St1 := Bool × List Char
def stdD (s : St1) : D := .tup [.bl s.1, .str s.2]
def putStep (R : Rule) (s : St1) (c : Char) : St1 × List Char × Bool :=
  ((fitB R.l c, [c]), if s.1 && fitB R.r c then s.2 ++ putTx R else s.2, s.1 && fitB R.r c)
def chPut (R : Rule) (n : Bool) (h c : Char) : List Char := if decide ([h] ∈ R.ch.map (·.1)) && n && fitB R.r c then look R.ch [h] else [h]
def chNear (R : Rule) (n : Bool) (h : Char) (put : List Char) : Bool := if isAl R then (match put with
  | [] => n
  | x :: _ => fitB R.l x) else fitB R.l h
def chStep (R : Rule) (s : St1) (c : Char) : St1 × List Char × Bool :=
  match s.2 with
  | [] => ((s.1, [c]), [], false)
  | h :: _ => ((chNear R s.1 h (chPut R s.1 h c), [c]), chPut R s.1 h c, decide ([h] ∈ R.ch.map (·.1)) && s.1 && fitB R.r c)
def stepR (R : Rule) (s : St1) (c : Char) : St1 × List Char × Bool := if isPut R then putStep R s c else chStep R s c
def readsP (R : Rule) : St1 → List Char → St1 × List Char × Bool
  | s, [] => (s, [], false)
  | s, c :: cs => ((readsP R (stepR R s c).1 cs).1, (stepR R s c).2.1 ++ (readsP R (stepR R s c).1 cs).2.1, (stepR R s c).2.2 || (readsP R (stepR R s c).1 cs).2.2)
theorem readsP_app (R : Rule) : ∀ (a b : List Char) (s : St1), (readsP R s (a ++ b)).1 = (readsP R (readsP R s a).1 b).1 ∧ (readsP R s (a ++ b)).2.1 = (readsP R s a).2.1 ++ (readsP R (readsP R s a).1 b).2.1
  | [], b, s => ⟨rfl, rfl⟩
  | c :: a, b, s => by
    have ih := readsP_app R a b (stepR R s c).1
    rw [List.cons_append]
    simp only [readsP, ih.1, ih.2, List.append_assoc]
    exact ⟨trivial, trivial⟩
def initR (R : Rule) : St1 := (fitB R.l '#', [])
theorem reads_put {R : Rule} (hp : isPut R = true) : ∀ (w : List Char) (a : Char) (h : List Char), (readsP R (fitB R.l a, h) (w ++ ['#'])).2.1 = h ++ putG R.l R.r (putTx R) a w '#'
  | [], a, h => by
    simp only [List.nil_append, readsP, stepR, hp, if_true, putStep, putG, gapW]
    cases (fitB R.l a && fitB R.r '#') <;> simp
  | c :: cs, a, h => by
    have ih := reads_put hp cs c [c]
    rw [List.cons_append]
    simp only [readsP, stepR, hp, if_true, putStep, ih, putG, gapW]
    cases (fitB R.l a && fitB R.r c) <;> simp
def hd1 (x : List Char) (o : Char) : Char := match x with
  | [] => o
  | y :: _ => y
theorem getLastD_one {x : List Char} (h : x.length ≤ 1) (o : Char) : x.getLastD o = hd1 x o := by
  match x, h with
  | [], _ => rfl
  | [_], _ => rfl
theorem reads_ch {R : Rule} (hp : isPut R = false) (hO : Ones R.ch) : ∀ (cs : List Char) (h prev o : Char), (readsP R (fitB R.l (nearC (isAl R) prev o), [h]) (cs ++ ['#'])).2.1 = repG (isAl R) R.ch R.l R.r prev o (h :: cs)
  | [], h, prev, o => by
    simp only [List.nil_append, readsP, stepR, hp, Bool.false_eq_true, if_false, chStep, chPut, repG, stepC, List.headD_nil]
    rfl
  | c :: cs, h, prev, o => by
    have e1 : chPut R (fitB R.l (nearC (isAl R) prev o)) h c = stepC R.ch R.l R.r (nearC (isAl R) prev o) h c := rfl
    have hl := step_len hO R.l R.r (nearC (isAl R) prev o) h c
    have e2 : chNear R (fitB R.l (nearC (isAl R) prev o)) h (stepC R.ch R.l R.r (nearC (isAl R) prev o) h c) = fitB R.l (nearC (isAl R) h ((stepC R.ch R.l R.r (nearC (isAl R) prev o) h c).getLastD o)) := by
      generalize stepC R.ch R.l R.r (nearC (isAl R) prev o) h c = s at hl ⊢
      rw [getLastD_one hl]
      unfold chNear nearC hd1
      cases isAl R <;> cases s <;> rfl
    have ih := reads_ch hp hO cs c h ((stepC R.ch R.l R.r (nearC (isAl R) prev o) h c).getLastD o)
    rw [List.cons_append]
    simp only [readsP, stepR, hp, Bool.false_eq_true, if_false, chStep, e1, e2]
    rw [ih]
    rfl
theorem reads_whole {R : Rule} (h : Fine R) (w : List Char) : (readsP R (initR R) (w ++ ['#'])).2.1 = chgL R w := by
  unfold chgL initR
  cases hp : isPut R with
  | true => rw [if_pos rfl, reads_put hp, List.nil_append]
  | false =>
    rw [if_neg (by decide)]
    cases w with
    | nil => simp only [List.nil_append, readsP, stepR, hp, Bool.false_eq_true, if_false, chStep, repG, List.append_nil]
    | cons c cs =>
      have := reads_ch hp (h.one hp) cs c '#' '#'
      have e : nearC (isAl R) '#' '#' = '#' := by unfold nearC; split <;> rfl
      rw [e] at this
      rw [List.cons_append]
      simp only [readsP, stepR, hp, Bool.false_eq_true, if_false, chStep, List.nil_append]
      exact this
/-! all rules one behind the other -/
def stepO : List Rule → List St1 → List Char → List St1 × List Char
  | R :: Rs, s :: ss, put => ((readsP R s put).1 :: (stepO Rs ss (readsP R s put).2.1).1, (stepO Rs ss (readsP R s put).2.1).2)
  | _, _, put => ([], put)
def actO : List Rule → List St1 → List Char → List Bool
  | R :: Rs, s :: ss, put => (readsP R s put).2.2 :: actO Rs ss (readsP R s put).2.1
  | _, _, _ => []
def endO : List Rule → List St1 → List Char → List Char
  | R :: Rs, s :: ss, put => endO Rs ss (readsP R s (put ++ ['#'])).2.1
  | _, _, put => put
def endA : List Rule → List St1 → List Char → List Bool
  | R :: Rs, s :: ss, put => (readsP R s (put ++ ['#'])).2.2 :: endA Rs ss (readsP R s (put ++ ['#'])).2.1
  | _, _, _ => []
theorem stepO_len : ∀ (Rs : List Rule) (ss : List St1) (u : List Char), Rs.length = ss.length → (stepO Rs ss u).1.length = Rs.length
  | [], ss, u, h => by cases ss <;> first | rfl | cases h
  | R :: Rs, [], u, h => by cases h
  | R :: Rs, s :: ss, u, h => by
    rw [stepO, List.length_cons, List.length_cons, stepO_len Rs ss _ (by simpa using h)]
def runO (Rs : List Rule) : List St1 → List (List Char) → List Char
  | ss, [] => endO Rs ss []
  | ss, u :: us => (stepO Rs ss u).2 ++ runO Rs (stepO Rs ss u).1 us
def rbs (b : Bool) (Rs : List Rule) : List Rule := if b then Rs.map turnR else Rs
def dirW (b : Bool) (w : List Char) : List Char := if b then w.reverse else w
/-! sizes -/
def Std1 (s : St1) : Prop := s.2.length ≤ 1
theorem stepR_ok {R : Rule} (h : Fine R) {s : St1} (hs : Std1 s) (c : Char) : Std1 (stepR R s c).1 ∧ (stepR R s c).2.1.length ≤ 2 := by
  unfold stepR
  cases hp : isPut R with
  | true =>
    rw [if_pos rfl]
    refine ⟨Nat.le_refl _, ?_⟩
    have h1 := h.put hp
    unfold Std1 at hs
    show (if s.1 && fitB R.r c then s.2 ++ putTx R else s.2).length ≤ 2
    split
    · rw [List.length_append]; omega
    · omega
  | false =>
    rw [if_neg (by decide)]
    unfold chStep
    cases hh : s.2 with
    | nil => exact ⟨Nat.le_refl _, Nat.zero_le _⟩
    | cons x t =>
      refine ⟨Nat.le_refl _, ?_⟩
      show (chPut R s.1 x c).length ≤ 2
      unfold chPut
      split
      · rename_i q
        simp only [Bool.and_eq_true, decide_eq_true_eq] at q
        have := h.one hp _ q.1.1
        omega
      · simp
theorem reads_ok {R : Rule} (h : Fine R) : ∀ (w : List Char) {s : St1}, Std1 s → Std1 (readsP R s w).1 ∧ (readsP R s w).2.1.length ≤ 2 * w.length
  | [], s, hs => ⟨hs, Nat.le_refl _⟩
  | c :: w, s, hs => by
    have h1 := stepR_ok h hs c
    have h2 := reads_ok h w h1.1
    refine ⟨h2.1, ?_⟩
    simp only [readsP, List.length_append, List.length_cons]
    omega
end Z

set_option Elab.async false
set_option linter.all false
set_option maxRecDepth 100000
set_option maxHeartbeats 4000000
namespace Z
open PySem L2 PySem.Spec PyProof.Rows
local macro_rules
  | `(tactic| wp_walk using w_stp) => `(tactic| simp only [w_okb, w_bb, w_var, w_con, w_glo, w_tup, w_lst, w_dct, w_bin, w_not, w_and, w_or, w_cmp, w_chain, w_ix, w_call, w_fld, w_new, w_meth, w_noneD, w_setf, w_blt, w_mth, w_comp, w_sl, w_rev, w_neg, w_nil, w_cons, w_and1, w_and2, w_or1, w_or2, w_asg, w_exp, w_ret, w_anm, w_asub, w_orv, w_dcn0, w_dcn1, w_whl, w_callv, w_wipe1, w_wipe2, Ok.ok_iff, subTy, List.getElem?_cons_zero, List.getElem?_cons_succ, List.set_cons_succ, List.set_cons_zero, if_true, Bool.false_eq_true, if_false, Option.map_some, Bool.not_true, Bool.not_false, Bool.true_or, Bool.or_true, Bool.false_or, Bool.or_false, Bool.true_and, Bool.and_true, Bool.false_and, Bool.and_false, eq_self, decide_true, decide_false, beq_self_eq_true, of_some, litD_f, litD_t, bin_add, bin_sub, bin_band, cmp_lti, cmp_lts, cmp_le, cmp_gt, cmp_ge, cmp_none, cmp_nnone, cmp_true, cmp_ntrue, ofB_some, cmp_in, cmp_nin, nonD_non, nonD_s, nonD_t, nonD_i, nonD_l, nonD_r, nonD_b, nonD_x, deref_s, deref_t, deref_l, deref_i, deref_b, deref_n, ok_s, ok_i, ok_b, ok_n, mem_s, flat_s, flat_i, flat_b, flat_n, ix_s, ix_t, ix_l, items_t, items_l, len_s, len_t2, len_t4, len_l, tuple_s, tuple_t, tuple_l, list_s, list_t, list_l, blt_max, blt_min, blt_all, blt_any, ty_s, ty_t, ty_l, ty_i, ty_b, ty_n, rec_join, rec_idx, rec_idxT, tupOnly_t, blt_int1, rec_idxLl, it_s, it_en, it_t, it_l, compI_sq, forI_sq, bind1, rev_s, rev_t, rev_l, blt_inrg, blt_ninrg, rec_upr, bind2, sl_t, sl_s, sl_l, part_i, eq_ss, eq_ii, eq_bb, eq_tn, eq_tc, eq_tc0, eq_t0c, in_nil, in_cons, in_strs, in_sgn, flat_map, all_true, cmp_eq_ii, cmp_eq_ss, cmp_eq_bb, cmp_ne_ii, cmp_ne_ss, bin_shrn, mem_strs, mem_strl, atI_0, atI_1, atI_2, atI_3])
  | `(tactic| wp_walk using w_stp, $[$ts:term],*) => `(tactic| simp only [w_okb, w_bb, w_var, w_con, w_glo, w_tup, w_lst, w_dct, w_bin, w_not, w_and, w_or, w_cmp, w_chain, w_ix, w_call, w_fld, w_new, w_meth, w_noneD, w_setf, w_blt, w_mth, w_comp, w_sl, w_rev, w_neg, w_nil, w_cons, w_and1, w_and2, w_or1, w_or2, w_asg, w_exp, w_ret, w_anm, w_asub, w_orv, w_dcn0, w_dcn1, w_whl, w_callv, w_wipe1, w_wipe2, Ok.ok_iff, subTy, List.getElem?_cons_zero, List.getElem?_cons_succ, List.set_cons_succ, List.set_cons_zero, if_true, Bool.false_eq_true, if_false, Option.map_some, Bool.not_true, Bool.not_false, Bool.true_or, Bool.or_true, Bool.false_or, Bool.or_false, Bool.true_and, Bool.and_true, Bool.false_and, Bool.and_false, eq_self, decide_true, decide_false, beq_self_eq_true, of_some, litD_f, litD_t, bin_add, bin_sub, bin_band, cmp_lti, cmp_lts, cmp_le, cmp_gt, cmp_ge, cmp_none, cmp_nnone, cmp_true, cmp_ntrue, ofB_some, cmp_in, cmp_nin, nonD_non, nonD_s, nonD_t, nonD_i, nonD_l, nonD_r, nonD_b, nonD_x, deref_s, deref_t, deref_l, deref_i, deref_b, deref_n, ok_s, ok_i, ok_b, ok_n, mem_s, flat_s, flat_i, flat_b, flat_n, ix_s, ix_t, ix_l, items_t, items_l, len_s, len_t2, len_t4, len_l, tuple_s, tuple_t, tuple_l, list_s, list_t, list_l, blt_max, blt_min, blt_all, blt_any, ty_s, ty_t, ty_l, ty_i, ty_b, ty_n, rec_join, rec_idx, rec_idxT, tupOnly_t, blt_int1, rec_idxLl, it_s, it_en, it_t, it_l, compI_sq, forI_sq, bind1, rev_s, rev_t, rev_l, blt_inrg, blt_ninrg, rec_upr, bind2, sl_t, sl_s, sl_l, part_i, eq_ss, eq_ii, eq_bb, eq_tn, eq_tc, eq_tc0, eq_t0c, in_nil, in_cons, in_strs, in_sgn, flat_map, all_true, cmp_eq_ii, cmp_eq_ss, cmp_eq_bb, cmp_ne_ii, cmp_ne_ss, bin_shrn, mem_strs, mem_strl, atI_0, atI_1, atI_2, atI_3, $[$ts:term],*])
/-! P8: the program's standings -/
def Fo2 (G : Ctx) (i j : Nat) (b : List Z.S) (k : IK) (ρ : Env) (Q : Fl × Env × Store → Prop) (p : List D × Store) : Prop := ∃ ds, itrD k p.1 p.2 = .ok (.sq ds) ∧ Ok (forL (fun d ρ s => (bindG [i, j] false d ρ).bind fun ρ' => evSs G b ρ' s) ds ρ p.2) Q
theorem fo2_ {G : Ctx} {i j : Nat} {b : List Z.S} {k : IK} {ρ : Env} {Q : Fl × Env × Store → Prop} {xs ds : List D} {S : Store} (h1 : itrD k xs S = .ok (.sq ds)) (h2 : Ok (forL (fun d ρ s => (bindG [i, j] false d ρ).bind fun ρ' => evSs G b ρ' s) ds ρ S) Q) : Fo2 G i j b k ρ Q (xs, S) := ⟨ds, h1, h2⟩
theorem fo2_ok {G : Ctx} {i j : Nat} {b : List Z.S} {k : IK} {its : List E} {ρ : Env} {S : Store} {Q : Fl × Env × Store → Prop} (h : Ok (evEs G its ρ S) (Fo2 G i j b k ρ Q)) : Ok (evS G (.fo [i, j] false k its b) ρ S) Q := by
  obtain ⟨⟨xs, S'⟩, e, ds, h1, h2⟩ := h
  simp only [evS, e, h1, R.ok_bind, forI]
  exact h2
structure GW (R : Rule) : Prop where
  fine : Fine R
  how : R.how ∈ ways
theorem gw_of {ss : List Char} {R : Rule} (g : GoodR ss R) : GW R := ⟨fine_of g.ch, g.how⟩
theorem GW.turn {R : Rule} (h : GW R) : GW (turnR R) := ⟨h.fine.turn, h.how⟩
theorem gw_rbs {b : Bool} {Rs : List Rule} (h : ∀ R ∈ Rs, GW R) : ∀ R ∈ rbs b Rs, GW R := by
  unfold rbs
  split
  · intro R hR
    obtain ⟨Q, hQ, rfl⟩ := List.mem_map.mp hR
    exact (h Q hQ).turn
  · exact h
theorem rbs_len {b : Bool} {Rs : List Rule} : (rbs b Rs).length = Rs.length := by
  unfold rbs
  split <;> simp
theorem how_once {R : Rule} (h : GW R) : (R.how = ['o', 'n', 'c', 'e']) ↔ isAl R = false := by
  have := h.how
  unfold isAl
  simp only [ways, List.mem_cons, List.not_mem_nil, or_false] at this
  rcases this with e | e <;> rw [e] <;> decide
def resD (s : St1 × List Char × Bool) : D := .tup [stdD s.1, .str s.2.1, .bl s.2.2]
theorem a_std {G : Ctx} {ρ : Env} {S : Store} {s : St1} {i j : Nat} : asg G (.tp [.nm i, .nm j]) (stdD s) ρ S = .ok ((ρ.set i (some (.bl s.1))).set j (some (.str s.2)), S) := by
  unfold stdD
  rw [w_atp rfl]
  (wp_walk using w_stp, w_asgs, w_asgn)
theorem a_res {G : Ctx} {ρ : Env} {S : Store} {s : St1 × List Char × Bool} {i j l : Nat} : asg G (.tp [.nm i, .nm j, .nm l]) (resD s) ρ S = .ok (((ρ.set i (some (stdD s.1))).set j (some (.str s.2.1))).set l (some (.bl s.2.2)), S) := by
  unfold resD
  rw [w_atp rfl]
  (wp_walk using w_stp, w_asgs, w_asgn)
theorem e_rules_by_side {k : Nat} {S : Store} (b : Bool) {Rs : List Rule} : callF pg (k + 2) "rules_by_side" [ordD b Rs] S = .ok (.tup ((rbs b Rs).map ruleD), S) := by
  have i0 : ∀ S : Store, ixD (ordD b Rs) (.int 0) S = .ok (.str (sideS b), S) := fun S => by unfold ordD; (wp_walk using w_stp)
  have i1 : ∀ S : Store, ixD (ordD b Rs) (.int 1) S = .ok (.tup (Rs.map ruleD), S) := fun S => by unfold ordD; (wp_walk using w_stp)
  refine eq_ok (call_ok (ρ := [some (ordD b Rs), none]) fn_c_rules_by_side rfl rfl (ss_cons (ite_ok ?_)))
  cases b with
  | false =>
    (wp_walk using w_stp, i0, sideS)
    refine iff_ (fun _ => ss_cons ?_) (fun e => by cases e)
    (wp_walk using w_stp, i1)
    exact nrt (nrt (rt rfl))
  | true =>
    have e0 : ¬ ['r', 'i', 'g', 'h', 't'] = ['l', 'e', 'f', 't'] := by decide
    (wp_walk using w_stp, i0, sideS, e0)
    refine iff_ (fun e => by cases e) (fun _ => ss_nil (nx (ss_cons ?_)))
    (wp_walk using w_stp, i1)
    rw [compL_map (g := fun R => ruleD (turnR R)) fun R hR => by (wp_walk using w_stp, e_turned (k := k))]
    (wp_walk using w_stp)
    refine nrt (rt ?_)
    unfold rbs
    rw [if_pos rfl, List.map_map]
    rfl
theorem e_first_standing {k : Nat} {S : Store} (b : Bool) {Rs : List Rule} : callF pg (k + 3) "first_standing" [ordD b Rs] S = .ok (.tup (((rbs b Rs).map initR).map stdD), S) := by
  refine eq_ok (call_ok (ρ := [some (ordD b Rs), none]) fn_c_first_standing rfl rfl (ss_cons ?_))
  (wp_walk using w_stp, e_rules_by_side (k := k))
  rw [compL_map (g := fun R => stdD (initR R)) fun R hR => ?_]
  · (wp_walk using w_stp)
    refine nrt (rt ?_)
    rw [List.map_map]
    rfl
  · have i2 : ∀ S : Store, ixD (ruleD R) (.int 2) S = .ok (sgnD R.l, S) := fun S => by unfold ruleD; (wp_walk using w_stp)
    (wp_walk using w_stp, i2, gl_EDGE, e_fits (k := k + 1))
    rfl
theorem head_ch {R : Rule} (h : Fine R) : ∃ a b ch, R.ch = (a, b) :: ch ∧ isPut R = decide (a = []) ∧ putTx R = b ∧ (∀ S : Store, ixD (ruleD R) (.int 1) S = .ok (.tup (chD (a, b) :: ch.map chD), S)) ∧ (∀ S : Store, ixD (chD (a, b)) (.int 0) S = .ok (.str a, S)) ∧ ∀ S : Store, ixD (chD (a, b)) (.int 1) S = .ok (.str b, S) := by
  obtain ⟨a, b, ch, e⟩ : ∃ a b ch, R.ch = (a, b) :: ch := by
    cases e : R.ch with
    | nil => exact absurd e h.ne
    | cons p ch => exact ⟨p.1, p.2, ch, rfl⟩
  refine ⟨a, b, ch, e, by unfold isPut; rw [e], by unfold putTx; rw [e], fun S => ?_, fun S => ?_, fun S => ?_⟩
  · unfold ruleD; (wp_walk using w_stp, e, List.map_cons)
  · unfold chD; (wp_walk using w_stp)
  · unfold chD; (wp_walk using w_stp)
theorem e_puts_in {k : Nat} {S : Store} {R : Rule} (h : Fine R) : callF pg (k + 1) "puts_in" [ruleD R] S = .ok (.bl (isPut R), S) := by
  obtain ⟨a, b, ch, e, eb, ep, i1, i4, i5⟩ := head_ch h
  refine eq_ok (call_ok (ρ := [some (ruleD R)]) fn_c_puts_in rfl rfl (ss_cons ?_))
  (wp_walk using w_stp, i1, i4)
  exact nrt (rt (by rw [eb]))
theorem e_put_in_step {k : Nat} {S : Store} {R : Rule} {s : St1} {c : Char} (h : Fine R) (hp : isPut R = true) (hs : Std1 s) : callF pg (k + 2) "put_in_step" [ruleD R, stdD s, .str [c]] S = .ok (resD (putStep R s c), S) := by
  obtain ⟨a, b, ch, e, eb, ep, i1, i4, i5⟩ := head_ch h
  have i2 : ∀ S : Store, ixD (ruleD R) (.int 2) S = .ok (sgnD R.l, S) := fun S => by unfold ruleD; (wp_walk using w_stp)
  have i3 : ∀ S : Store, ixD (ruleD R) (.int 3) S = .ok (sgnD R.r, S) := fun S => by unfold ruleD; (wp_walk using w_stp)
  have hb : b.length = 1 := by rw [← ep]; exact h.put hp
  unfold Std1 at hs
  have ad : ∀ S : Store, binD .add (.str s.2) (.str b) S = .ok (.str (s.2 ++ b), S) := fun S => adds_ok (by omega)
  refine eq_ok (call_ok (ρ := [some (ruleD R), some (stdD s), some (.str [c]), none, none, none, none]) fn_c_put_in_step rfl rfl (ss_cons ?_))
  (wp_walk using w_stp, a_std)
  refine nx (ss_cons ?_)
  have tail : ∀ (f : Bool), Ok (evSs ⟨callF pg (k + 1), pg.glo, pg.fuel⟩ [.asg (.nm 4) (.var 6),
    .ite (.var 3) [.asg (.nm 4) (.bin .add (.var 6) (.ix (.ix (.ix (.var 0) (.con (.int 1))) (.con (.int 0))) (.con (.int 1))))] [],
    .ret (.tup [.tup [.call "fits" [.ix (.var 0) (.con (.int 2)), .var 2], .var 2], .var 4, .var 3])] [some (ruleD R), some (stdD s), some (.str [c]), some (.bl f), none, some (.bl s.1), some (.str s.2)] S) (Rt fun p => p = (resD ((fitB R.l c, [c]), if f then s.2 ++ putTx R else s.2, f), S)) := by
    intro f
    refine ss_cons ?_
    (wp_walk using w_stp)
    refine nx (ss_cons (ite_ok ?_))
    cases f with
    | false =>
      (wp_walk using w_stp)
      refine iff_ (fun e => by cases e) (fun _ => ss_nil (nx (ss_cons ?_)))
      (wp_walk using w_stp, i2, e_fits (k := k))
      exact nrt (rt rfl)
    | true =>
      (wp_walk using w_stp)
      refine iff_ (fun _ => ss_cons ?_) (fun e => by cases e)
      (wp_walk using w_stp, i1, i5, ad)
      refine nx (ss_nil (nx (ss_cons ?_)))
      (wp_walk using w_stp, i2, e_fits (k := k))
      refine nrt (rt ?_)
      rw [ep]
      rfl
  unfold putStep
  cases hn : s.1 with
  | false =>
    (wp_walk using w_stp, hn)
    have := tail false
    rw [hn] at this
    exact nx this
  | true =>
    (wp_walk using w_stp, hn, i3, e_fits (k := k))
    have := tail (fitB R.r c)
    rw [hn] at this
    exact nx this
theorem e_change_step {k : Nat} {S : Store} {R : Rule} {s : St1} {c : Char} (h : GW R) (hp : isPut R = false) (hs : Std1 s) : Ok (callF pg (k + 2) "change_step" [ruleD R, stdD s, .str [c]] S) fun p => p.1 = resD (chStep R s c) ∧ Gr S p.2 := by
  have i0 : ∀ S : Store, ixD (ruleD R) (.int 0) S = .ok (.str R.how, S) := fun S => by unfold ruleD; (wp_walk using w_stp)
  have i1 : ∀ S : Store, ixD (ruleD R) (.int 1) S = .ok (.tup (R.ch.map chD), S) := fun S => by unfold ruleD; (wp_walk using w_stp)
  have i2 : ∀ S : Store, ixD (ruleD R) (.int 2) S = .ok (sgnD R.l, S) := fun S => by unfold ruleD; (wp_walk using w_stp)
  have i3 : ∀ S : Store, ixD (ruleD R) (.int 3) S = .ok (sgnD R.r, S) := fun S => by unfold ruleD; (wp_walk using w_stp)
  have hO := h.fine.one hp
  have ed : dictD (R.ch.map chD) [] [] = some (R.ch.map kD, R.ch.map vD) := by
    have := h.fine.len
    simpa using dictD_kv R.ch [] (by simpa using h.fine.nd) (by simp; omega)
  obtain ⟨n, hd⟩ := s
  refine call_ok (ρ := [some (ruleD R), some (stdD (n, hd)), some (.str [c]), none, none, none, none, none]) fn_c_change_step rfl rfl (ss_cons ?_)
  (wp_walk using w_stp, a_std)
  refine nx (ss_cons (ite_ok ?_))
  cases hd with
  | nil =>
    (wp_walk using w_stp)
    refine iff_ (fun _ => ss_cons ?_) (fun e => by cases e)
    (wp_walk using w_stp)
    exact nrt (nrt (rt ⟨rfl, .refl⟩))
  | cons x t =>
    have et : t = [] := by
      unfold Std1 at hs
      simp at hs
      exact hs
    subst et
    have e0 : ¬ [x] = [] := by simp
    (wp_walk using w_stp, e0)
    refine iff_ (fun e => by cases e) (fun _ => ss_nil (nx (ss_cons ?_)))
    (wp_walk using w_stp, i1, blt_dict ed)
    have em : (S ++ [O.dct (R.ch.map kD) (R.ch.map vD)])[S.length]? = some (.dct (R.ch.map kD) (R.ch.map vD)) := by simp
    have gr : Gr S (S ++ [O.dct (R.ch.map kD) (R.ch.map vD)]) := Gr.push
    generalize S ++ [O.dct (R.ch.map kD) (R.ch.map vD)] = S1 at em gr ⊢
    generalize S.length = m at em ⊢
    refine nx (ss_cons ?_)
    have near : ∀ (put : List Char) (a : Bool), put.length ≤ 1 → Ok (evSs ⟨callF pg (k + 1), pg.glo, pg.fuel⟩ [.ite (.cmp .eq (.ix (.var 0) (.con (.int 0))) (.con (.str ['o', 'n', 'c', 'e']))) [.asg (.nm 6) (.call "fits" [.ix (.var 0) (.con (.int 2)), .var 7])] [.ite (.cmp .ne (.var 5) (.con (.str []))) [.asg (.nm 6) (.call "fits" [.ix (.var 0) (.con (.int 2)), .var 5])] []],
    .ret (.tup [.tup [.var 6, .var 2], .var 5, .var 4])] [some (ruleD R), some (stdD (n, [x])), some (.str [c]), some (.ref m), some (.bl a), some (.str put), some (.bl n), some (.str [x])] S1) (Rt fun p => p.1 = resD ((chNear R n x put, [c]), put, a) ∧ Gr S p.2) := by
      intro put a hpl
      refine ss_cons (ite_ok ?_)
      unfold chNear
      by_cases ho : R.how = ['o', 'n', 'c', 'e']
      · rw [(how_once h).mp ho]
        (wp_walk using w_stp, i0, ho)
        refine iff_ (fun _ => ss_cons ?_) (fun e => by cases e)
        (wp_walk using w_stp, i2, e_fits (k := k))
        refine nx (ss_nil (nx (ss_cons ?_)))
        (wp_walk using w_stp)
        exact nrt (rt ⟨rfl, gr⟩)
      · have ha : isAl R = true := by
          cases hh : isAl R with
          | true => rfl
          | false => exact absurd ((how_once h).mpr hh) ho
        rw [ha]
        (wp_walk using w_stp, i0, ho)
        refine iff_ (fun e => by cases e) (fun _ => ss_cons (ite_ok ?_))
        match put, hpl with
        | [], _ =>
          (wp_walk using w_stp)
          refine iff_ (fun e => by cases e) (fun _ => ss_nil (nx (ss_nil (nx (ss_cons ?_)))))
          (wp_walk using w_stp)
          exact nrt (rt ⟨rfl, gr⟩)
        | [y], _ =>
          have e1 : ¬ [y] = [] := by simp
          (wp_walk using w_stp, e1)
          refine iff_ (fun _ => ss_cons ?_) (fun e => by cases e)
          (wp_walk using w_stp, i2, e_fits (k := k))
          refine nx (ss_nil (nx (ss_nil (nx (ss_cons ?_)))))
          (wp_walk using w_stp)
          exact nrt (rt ⟨rfl, gr⟩)
    have act : ∀ a : Bool, (a = true → [x] ∈ R.ch.map (·.1)) → Ok (evSs ⟨callF pg (k + 1), pg.glo, pg.fuel⟩ [.asg (.nm 5) (.var 7),
    .ite (.var 4) [.asg (.nm 5) (.ix (.var 3) (.var 7))] [],
    .ite (.cmp .eq (.ix (.var 0) (.con (.int 0))) (.con (.str ['o', 'n', 'c', 'e']))) [.asg (.nm 6) (.call "fits" [.ix (.var 0) (.con (.int 2)), .var 7])] [.ite (.cmp .ne (.var 5) (.con (.str []))) [.asg (.nm 6) (.call "fits" [.ix (.var 0) (.con (.int 2)), .var 5])] []],
    .ret (.tup [.tup [.var 6, .var 2], .var 5, .var 4])] [some (ruleD R), some (stdD (n, [x])), some (.str [c]), some (.ref m), some (.bl a), none, some (.bl n), some (.str [x])] S1) (Rt fun p => p.1 = resD ((chNear R n x (if a then look R.ch [x] else [x]), [c]), (if a then look R.ch [x] else [x]), a) ∧ Gr S p.2) := by
      intro a ha
      refine ss_cons ?_
      (wp_walk using w_stp)
      refine nx (ss_cons (ite_ok ?_))
      cases a with
      | false =>
        (wp_walk using w_stp)
        exact iff_ (fun e => by cases e) (fun _ => ss_nil (nx (near [x] false (Nat.le_refl _))))
      | true =>
        have hin := ha rfl
        (wp_walk using w_stp)
        refine iff_ (fun _ => ss_cons ?_) (fun e => by cases e)
        (wp_walk using w_stp, ix_dct em hin)
        exact nx (ss_nil (nx (near (look R.ch [x]) true (hO _ hin))))
    have fin : chStep R (n, [x]) c = ((chNear R n x (if (decide ([x] ∈ R.ch.map (·.1)) && n && fitB R.r c) then look R.ch [x] else [x]), [c]), (if (decide ([x] ∈ R.ch.map (·.1)) && n && fitB R.r c) then look R.ch [x] else [x]), (decide ([x] ∈ R.ch.map (·.1)) && n && fitB R.r c)) := rfl
    rw [fin]
    by_cases hin : [x] ∈ R.ch.map (·.1)
    · have a1 := act (decide ([x] ∈ R.ch.map (·.1)) && n && fitB R.r c) fun _ => hin
      rw [decide_eq_true hin] at a1 ⊢
      cases n with
      | false =>
        (wp_walk using w_stp, mem_dct em, hin)
        exact nx a1
      | true =>
        (wp_walk using w_stp, mem_dct em, hin, i3, e_fits (k := k))
        exact nx a1
    · have a1 := act false fun e => by cases e
      rw [decide_eq_false hin]
      (wp_walk using w_stp, mem_dct em, hin)
      exact nx a1
theorem e_rule_step {k : Nat} {S : Store} {R : Rule} {s : St1} {c : Char} (h : GW R) (hs : Std1 s) : Ok (callF pg (k + 3) "rule_step" [ruleD R, stdD s, .str [c]] S) fun p => p.1 = resD (stepR R s c) ∧ Gr S p.2 := by
  refine call_ok (ρ := [some (ruleD R), some (stdD s), some (.str [c])]) fn_c_rule_step rfl rfl (ss_cons (ite_ok ?_))
  (wp_walk using w_stp, e_puts_in (k := k + 1) h.fine)
  unfold stepR
  cases hp : isPut R with
  | true =>
    refine iff_ (fun _ => ss_cons ?_) (fun e => by cases e)
    (wp_walk using w_stp, e_put_in_step (k := k) h.fine hp hs)
    exact nrt (nrt (rt ⟨rfl, .refl⟩))
  | false =>
    refine iff_ (fun e => by cases e) (fun _ => ss_nil (nx (ss_cons ?_)))
    (wp_walk using w_stp)
    refine Ok.bind (e_change_step h hp hs) ?_
    rintro ⟨_, S1⟩ ⟨rfl, g⟩
    (wp_walk using w_stp)
    exact nrt (rt ⟨rfl, g⟩)
def rreadB : List Z.S := [.asg (.tp [.nm 1, .nm 6, .nm 7]) (.call "rule_step" [.var 0, .var 1, .var 5]),
      .asg (.nm 3) (.bin .add (.var 3) (.var 6)),
      .asg (.nm 4) (.or [.var 4, .var 7])]
theorem rread_loop {k : Nat} {R : Rule} (h : GW R) {x2 : Option D} {S0 : Store} : ∀ (w f : List Char) (s : St1) (a : Bool) (x5 x6 x7 : Option D) (S : Store), Std1 s → f.length + 2 * w.length ≤ 16000000 → Gr S0 S →
    Ok (forL (fun d ρ s => evSs ⟨callF pg (k + 3), pg.glo, pg.fuel⟩ rreadB (ρ.set 5 (some d)) s) (w.map fun c => .str [c]) [some (ruleD R), some (stdD s), x2, some (.str f), some (.bl a), x5, x6, x7] S) fun p => p.1 = .nx ∧ Gr S0 p.2.2 ∧ ∃ (x5 x6 x7 : Option D), p.2.1 = [some (ruleD R), some (stdD (readsP R s w).1), x2, some (.str (f ++ (readsP R s w).2.1)), some (.bl (a || (readsP R s w).2.2)), x5, x6, x7]
  | [], f, s, a, x5, x6, x7, S, hs, hl, g => by
    rw [List.map_nil, forL, Ok.ok_iff]
    refine ⟨rfl, g, x5, x6, x7, ?_⟩
    simp only [readsP, List.append_nil, Bool.or_false]
  | c :: w, f, s, a, x5, x6, x7, S, hs, hl, g => by
    rw [List.length_cons] at hl
    have hst := stepR_ok h.fine hs c
    rw [List.map_cons, forL]
    refine Ok.bind (P := fun r => r.1 = .nx ∧ Gr S0 r.2.2 ∧ ∃ x5 x6 x7, r.2.1 = [some (ruleD R), some (stdD (stepR R s c).1), x2, some (.str (f ++ (stepR R s c).2.1)), some (.bl (a || (stepR R s c).2.2)), x5, x6, x7]) ?_ ?_
    · unfold rreadB
      refine ss_cons ?_
      (wp_walk using w_stp)
      refine Ok.bind (e_rule_step h hs) ?_
      rintro ⟨_, S1⟩ ⟨rfl, g1⟩
      have g1 : Gr S S1 := g1
      have ad : ∀ S : Store, binD .add (.str f) (.str (stepR R s c).2.1) S = .ok (.str (f ++ (stepR R s c).2.1), S) := fun S => adds_ok (by omega)
      (wp_walk using w_stp, a_res)
      refine nx (ss_cons ?_)
      (wp_walk using w_stp, ad)
      refine nx (ss_cons ?_)
      cases a with
      | true =>
        (wp_walk using w_stp)
        exact nx (ss_nil ⟨rfl, g.trans g1, _, _, _, rfl⟩)
      | false =>
        (wp_walk using w_stp)
        exact nx (ss_nil ⟨rfl, g.trans g1, _, _, _, rfl⟩)
    · rintro ⟨_, _, S1⟩ ⟨rfl, g1, y5, y6, y7, rfl⟩
      have ih := rread_loop (k := k) h (x2 := x2) (S0 := S0) w (f ++ (stepR R s c).2.1) (stepR R s c).1 (a || (stepR R s c).2.2) y5 y6 y7 S1 hst.1 (by rw [List.length_append]; omega) g1
      simp only [readsP]
      rw [← List.append_assoc, ← Bool.or_assoc]
      exact ih
theorem e_rule_reads {k : Nat} {S : Store} {R : Rule} {s : St1} {w : List Char} (h : GW R) (hs : Std1 s) (hl : w.length ≤ 8000000) : Ok (callF pg (k + 4) "rule_reads" [ruleD R, stdD s, .str w] S) fun p => p.1 = resD (readsP R s w) ∧ Gr S p.2 := by
  refine call_ok (ρ := [some (ruleD R), some (stdD s), some (.str w), none, none, none, none, none]) fn_c_rule_reads rfl rfl (ss_cons ?_)
  (wp_walk using w_stp)
  refine nx (ss_cons ?_)
  (wp_walk using w_stp)
  refine nx (ss_cons (fo_ok ?_))
  (wp_walk using w_stp)
  refine fo_ it_s ((rread_loop (k := k) h w [] s false none none none S hs (by simp; omega) .refl).mono ?_)
  rintro ⟨_, _, S1⟩ ⟨rfl, g1, x5, x6, x7, rfl⟩
  refine nx (ss_cons ?_)
  (wp_walk using w_stp)
  exact nrt (rt ⟨rfl, g1⟩)
def pairD (p : Rule × St1) : D := .tup [ruleD p.1, stdD p.2]
theorem zip_map : ∀ (Rs : List Rule) (ss : List St1), zipD (Rs.map ruleD) (ss.map stdD) = (Rs.zip ss).map pairD
  | [], ss => by simp [zipD]
  | R :: Rs, [] => by simp [zipD]
  | R :: Rs, s :: ss => by
    simp only [List.map_cons, zipD, List.zip_cons_cons, zip_map Rs ss]
    rfl
theorem it_zip {S : Store} {as bs : List D} : itrD .zip2 [.tup as, .tup bs] S = .ok (.sq (zipD as bs)) := id rfl
theorem bind_pair {v w : Nat} {p : Rule × St1} {ρ : Env} : bindG [v, w] false (pairD p) ρ = .ok ((ρ.set v (some (ruleD p.1))).set w (some (stdD p.2))) := id rfl
theorem set_other {S : Store} {m m' : Nat} {o o' : O} (h : S[m']? = some o') (hn : m ≠ m') : (S.set m o)[m']? = some o' := by
  rw [List.getElem?_set_ne hn]
  exact h
theorem set_same {S : Store} {m : Nat} {o o' : O} (h : S[m]? = some o') : (S.set m o)[m]? = some o := by
  rw [List.getElem?_set_self (List.getElem?_eq_some_iff.mp h).1]
def stepB : List Z.S := [.asg (.tp [.nm 8, .nm 3, .nm 9]) (.call "rule_reads" [.var 6, .var 7, .var 3]),
      .exp (.mth .append (.var 4) [.var 8]),
      .exp (.mth .append (.var 5) [.var 9])]
theorem step_loop {k m4 m5 : Nat} {S0 : Store} {x0 x1 x2 : Option D} (h4 : S0.length ≤ m4) (h5 : S0.length ≤ m5) (h45 : m4 ≠ m5) : ∀ (Rs : List Rule) (ss : List St1) (u : List Char) (fs : List St1) (as : List Bool) (S : Store) (x6 x7 x8 x9 : Option D), (∀ R ∈ Rs, GW R) → (∀ s ∈ ss, Std1 s) → Rs.length = ss.length → u.length * 2 ^ Rs.length ≤ 8000000 → fs.length + Rs.length ≤ 1000 → as.length = fs.length → Gr S0 S →
    S[m4]? = some (.lst (fs.map stdD)) → S[m5]? = some (.lst (as.map .bl)) →
    Ok (forL (fun d ρ s => (bindG [6, 7] false d ρ).bind fun ρ' => evSs ⟨callF pg (k + 4), pg.glo, pg.fuel⟩ stepB ρ' s) ((Rs.zip ss).map pairD) [x0, x1, x2, some (.str u), some (.ref m4), some (.ref m5), x6, x7, x8, x9] S) fun p => p.1 = .nx ∧ Gr S0 p.2.2 ∧ p.2.2[m4]? = some (.lst ((fs ++ (stepO Rs ss u).1).map stdD)) ∧ p.2.2[m5]? = some (.lst ((as ++ actO Rs ss u).map .bl)) ∧ ∃ x6 x7 x8 x9, p.2.1 = [x0, x1, x2, some (.str (stepO Rs ss u).2), some (.ref m4), some (.ref m5), x6, x7, x8, x9]
  | [], ss, u, fs, as, S, x6, x7, x8, x9, _, _, _, _, _, _, g, e4, e5 => by
    rw [List.zip_nil_left, List.map_nil, forL, Ok.ok_iff]
    exact ⟨rfl, g, by simpa [stepO] using e4, by simpa [actO] using e5, _, _, _, _, rfl⟩
  | R :: Rs, [], u, fs, as, S, x6, x7, x8, x9, _, _, hl, _, _, _, g, e4, e5 => by cases hl
  | R :: Rs, s :: ss, u, fs, as, S, x6, x7, x8, x9, hR, hs, hl, hb, hf, ha, g, e4, e5 => by
    have hp : 0 < 2 ^ Rs.length := Nat.two_pow_pos _
    rw [List.length_cons, Nat.pow_succ] at hb
    have hu : u.length ≤ 8000000 := by
      have : u.length * 1 ≤ u.length * (2 ^ Rs.length * 2) := Nat.mul_le_mul_left _ (by omega)
      omega
    have hro := reads_ok (hR R (by simp)).fine u (hs s (by simp))
    rw [List.zip_cons_cons, List.map_cons, forL]
    refine Ok.bind (P := fun r => r.1 = .nx ∧ Gr S0 r.2.2 ∧ r.2.2[m4]? = some (.lst ((fs ++ [(readsP R s u).1]).map stdD)) ∧ r.2.2[m5]? = some (.lst ((as ++ [(readsP R s u).2.2]).map .bl)) ∧ ∃ x6 x7 x8 x9, r.2.1 = [x0, x1, x2, some (.str (readsP R s u).2.1), some (.ref m4), some (.ref m5), x6, x7, x8, x9]) ?_ ?_
    · (wp_walk using w_stp, bind_pair)
      unfold stepB
      refine ss_cons ?_
      (wp_walk using w_stp)
      refine Ok.bind (e_rule_reads (hR R (by simp)) (hs s (by simp)) hu) ?_
      rintro ⟨_, S1⟩ ⟨rfl, g1⟩
      have g1 : Gr S S1 := g1
      have k4 := g1.get e4
      have k5 := g1.get e5
      have z4 : (fs.map stdD).length < sizeLine := by rw [List.length_map, sizeL]; omega
      have z5 : (as.map D.bl).length < sizeLine := by rw [List.length_map, sizeL]; omega
      (wp_walk using w_stp, a_res)
      refine nx (ss_cons ?_)
      (wp_walk using w_stp, rec_app k4, mth_app k4 z4)
      have j4 : (S1.set m4 (.lst (fs.map stdD ++ [stdD (readsP R s u).1])))[m4]? = some (.lst (fs.map stdD ++ [stdD (readsP R s u).1])) := set_same k4
      have j5 : (S1.set m4 (.lst (fs.map stdD ++ [stdD (readsP R s u).1])))[m5]? = some (.lst (as.map .bl)) := set_other k5 h45
      have gj : Gr S0 (S1.set m4 (.lst (fs.map stdD ++ [stdD (readsP R s u).1]))) := (g.trans g1).late h4
      generalize S1.set m4 (.lst (fs.map stdD ++ [stdD (readsP R s u).1])) = S2 at j4 j5 gj ⊢
      refine nx (ss_cons ?_)
      (wp_walk using w_stp, rec_app j5, mth_app j5 z5)
      refine nx (ss_nil ⟨rfl, gj.late h5, ?_, ?_, _, _, _, _, rfl⟩)
      · show (S2.set m5 _)[m4]? = _
        rw [List.map_append]
        exact set_other j4 (Ne.symm h45)
      · show (S2.set m5 _)[m5]? = _
        rw [List.map_append]
        exact set_same j5
    · rintro ⟨_, _, S3⟩ ⟨rfl, g3, e4', e5', y6, y7, y8, y9, rfl⟩
      have hb' : (readsP R s u).2.1.length * 2 ^ Rs.length ≤ 8000000 := by
        refine Nat.le_trans (Nat.mul_le_mul_right _ hro.2) ?_
        rw [Nat.mul_comm 2 u.length, Nat.mul_assoc, Nat.mul_comm 2]
        exact hb
      have ih := step_loop (k := k) (x0 := x0) (x1 := x1) (x2 := x2) h4 h5 h45 Rs ss (readsP R s u).2.1 (fs ++ [(readsP R s u).1]) (as ++ [(readsP R s u).2.2]) S3 y6 y7 y8 y9 (fun Q hQ => hR Q (by simp [hQ])) (fun t ht => hs t (by simp [ht])) (by simpa using hl) hb' (by rw [List.length_append, List.length_singleton]; rw [List.length_cons] at hf; omega) (by simp [ha]) g3 e4' e5'
      simp only [stepO, actO]
      rw [List.append_assoc, List.append_assoc] at ih
      exact ih
theorem e_step_of {k : Nat} {S : Store} (b : Bool) {Rs : List Rule} {ss : List St1} {u : List Char} (hR : ∀ R ∈ Rs, GW R) (hs : ∀ s ∈ ss, Std1 s) (hl : Rs.length = ss.length) (hb : u.length * 2 ^ Rs.length ≤ 8000000) (hn : Rs.length ≤ 100) :
    Ok (callF pg (k + 5) "step_of" [ordD b Rs, .tup (ss.map stdD), .str u] S) fun p => p.1 = .tup [.tup ((stepO (rbs b Rs) ss u).1.map stdD), .str (stepO (rbs b Rs) ss u).2, .tup ((actO (rbs b Rs) ss u).map .bl)] ∧ Gr S p.2 := by
  refine call_ok (ρ := [some (ordD b Rs), some (.tup (ss.map stdD)), some (.str u), none, none, none, none, none, none, none]) fn_c_step_of rfl rfl (ss_cons ?_)
  (wp_walk using w_stp)
  refine nx (ss_cons ?_)
  (wp_walk using w_stp)
  have e4 : (S ++ [O.lst []])[S.length]? = some (.lst (([] : List St1).map stdD)) := by simp
  have gr1 : Gr S (S ++ [O.lst []]) := Gr.push
  have l1 : (S ++ [O.lst []]).length = S.length + 1 := by simp
  refine nx (ss_cons ?_)
  (wp_walk using w_stp)
  have e4' : (S ++ [O.lst []] ++ [O.lst []])[S.length]? = some (.lst (([] : List St1).map stdD)) := Gr.push.get e4
  have e5 : (S ++ [O.lst []] ++ [O.lst []])[(S ++ [O.lst []]).length]? = some (.lst (([] : List Bool).map .bl)) := by simp
  have gr2 : Gr S (S ++ [O.lst []] ++ [O.lst []]) := gr1.trans Gr.push
  generalize hS2 : S ++ [O.lst []] ++ [O.lst []] = S2 at e4' e5 gr2 ⊢
  generalize hm5 : (S ++ [O.lst []]).length = m5 at e5 l1 ⊢
  refine nx (ss_cons (fo2_ok ?_))
  (wp_walk using w_stp, e_rules_by_side (k := k + 2))
  refine fo2_ it_zip ?_
  rw [zip_map]
  refine (step_loop (k := k) (S0 := S) (Nat.le_refl _) (by omega) (by omega) (rbs b Rs) ss u [] [] S2 none none none none (gw_rbs hR) hs (by rw [rbs_len]; exact hl) (by rw [rbs_len]; exact hb) (by rw [rbs_len]; simp; omega) rfl gr2 e4' e5).mono ?_
  rintro ⟨_, _, S3⟩ ⟨rfl, g3, f4, f5, x6, x7, x8, x9, rfl⟩
  have f4 : S3[S.length]? = some (.lst ((stepO (rbs b Rs) ss u).1.map stdD)) := f4
  have f5 : S3[m5]? = some (.lst ((actO (rbs b Rs) ss u).map .bl)) := f5
  refine nx (ss_cons ?_)
  (wp_walk using w_stp, tuple_r f4, tuple_r f5)
  exact nrt (rt ⟨rfl, g3⟩)
theorem e_read_on {k : Nat} {S : Store} (b : Bool) {Rs : List Rule} {ss : List St1} {u : List Char} (hR : ∀ R ∈ Rs, GW R) (hs : ∀ s ∈ ss, Std1 s) (hl : Rs.length = ss.length) (hb : u.length * 2 ^ Rs.length ≤ 8000000) (hn : Rs.length ≤ 100) :
    Ok (callF pg (k + 6) "read_on" [ordD b Rs, .tup (ss.map stdD), .str u] S) fun p => p.1 = .tup [.tup ((stepO (rbs b Rs) ss u).1.map stdD), .str (stepO (rbs b Rs) ss u).2] ∧ Gr S p.2 := by
  refine call_ok (ρ := [some (ordD b Rs), some (.tup (ss.map stdD)), some (.str u)]) fn_c_read_on rfl rfl (ss_cons ?_)
  (wp_walk using w_stp)
  refine Ok.bind (e_step_of b hR hs hl hb hn) ?_
  rintro ⟨_, S1⟩ ⟨rfl, g⟩
  have c2 : ∀ (x y z : D), cut [x, y, z] none (some 2) = [x, y] := fun x y z => cut_take [x, y, z] 2
  (wp_walk using w_stp, c2)
  exact nrt (rt ⟨rfl, g⟩)
def endB : List Z.S := [.asg (.tp [.nm 6, .nm 2, .nm 7]) (.call "rule_reads" [.var 4, .var 5, .bin .add (.var 2) (.glo "EDGE")]),
      .exp (.mth .append (.var 3) [.var 7])]
theorem end_loop {k m3 : Nat} {S0 : Store} {x0 x1 : Option D} (h3 : S0.length ≤ m3) : ∀ (Rs : List Rule) (ss : List St1) (u : List Char) (as : List Bool) (S : Store) (x4 x5 x6 x7 : Option D), (∀ R ∈ Rs, GW R) → (∀ s ∈ ss, Std1 s) → Rs.length = ss.length → (u.length + 2) * 2 ^ Rs.length ≤ 8000000 → as.length + Rs.length ≤ 1000 → Gr S0 S →
    S[m3]? = some (.lst (as.map .bl)) →
    Ok (forL (fun d ρ s => (bindG [4, 5] false d ρ).bind fun ρ' => evSs ⟨callF pg (k + 4), pg.glo, pg.fuel⟩ endB ρ' s) ((Rs.zip ss).map pairD) [x0, x1, some (.str u), some (.ref m3), x4, x5, x6, x7] S) fun p => p.1 = .nx ∧ Gr S0 p.2.2 ∧ p.2.2[m3]? = some (.lst ((as ++ endA Rs ss u).map .bl)) ∧ ∃ x4 x5 x6 x7, p.2.1 = [x0, x1, some (.str (endO Rs ss u)), some (.ref m3), x4, x5, x6, x7]
  | [], ss, u, as, S, x4, x5, x6, x7, _, _, _, _, _, g, e3 => by
    rw [List.zip_nil_left, List.map_nil, forL, Ok.ok_iff]
    exact ⟨rfl, g, by simpa [endA] using e3, _, _, _, _, rfl⟩
  | R :: Rs, [], u, as, S, x4, x5, x6, x7, _, _, hl, _, _, g, e3 => by cases hl
  | R :: Rs, s :: ss, u, as, S, x4, x5, x6, x7, hR, hs, hl, hb, ha, g, e3 => by
    have hp : 0 < 2 ^ Rs.length := Nat.two_pow_pos _
    rw [List.length_cons, Nat.pow_succ] at hb
    have hu : u.length + 2 ≤ 8000000 := by
      have : (u.length + 2) * 1 ≤ (u.length + 2) * (2 ^ Rs.length * 2) := Nat.mul_le_mul_left _ (by omega)
      omega
    have hro := reads_ok (hR R (by simp)).fine (u ++ ['#']) (hs s (by simp))
    rw [List.length_append, List.length_singleton] at hro
    have ad : ∀ S : Store, binD .add (.str u) (.str ['#']) S = .ok (.str (u ++ ['#']), S) := fun S => adds_ok (by rw [List.length_singleton]; omega)
    rw [List.zip_cons_cons, List.map_cons, forL]
    refine Ok.bind (P := fun r => r.1 = .nx ∧ Gr S0 r.2.2 ∧ r.2.2[m3]? = some (.lst ((as ++ [(readsP R s (u ++ ['#'])).2.2]).map .bl)) ∧ ∃ x4 x5 x6 x7, r.2.1 = [x0, x1, some (.str (readsP R s (u ++ ['#'])).2.1), some (.ref m3), x4, x5, x6, x7]) ?_ ?_
    · (wp_walk using w_stp, bind_pair)
      unfold endB
      refine ss_cons ?_
      (wp_walk using w_stp, gl_EDGE, ad)
      refine Ok.bind (e_rule_reads (hR R (by simp)) (hs s (by simp)) (by rw [List.length_append, List.length_singleton]; omega)) ?_
      rintro ⟨_, S1⟩ ⟨rfl, g1⟩
      have g1 : Gr S S1 := g1
      have k3 := g1.get e3
      have z3 : (as.map D.bl).length < sizeLine := by rw [List.length_map, sizeL]; omega
      (wp_walk using w_stp, a_res)
      refine nx (ss_cons ?_)
      (wp_walk using w_stp, rec_app k3, mth_app k3 z3)
      refine nx (ss_nil ⟨rfl, (g.trans g1).late h3, ?_, _, _, _, _, rfl⟩)
      show (S1.set m3 _)[m3]? = _
      rw [List.map_append]
      exact set_same k3
    · rintro ⟨_, _, S3⟩ ⟨rfl, g3, e3', y4, y5, y6, y7, rfl⟩
      have hb' : ((readsP R s (u ++ ['#'])).2.1.length + 2) * 2 ^ Rs.length ≤ 8000000 := by
        have h1 : (readsP R s (u ++ ['#'])).2.1.length + 2 ≤ (u.length + 2) * 2 := by omega
        refine Nat.le_trans (Nat.mul_le_mul_right _ h1) ?_
        rw [Nat.mul_assoc, Nat.mul_comm 2]
        exact hb
      have ih := end_loop (k := k) (x0 := x0) (x1 := x1) h3 Rs ss (readsP R s (u ++ ['#'])).2.1 (as ++ [(readsP R s (u ++ ['#'])).2.2]) S3 y4 y5 y6 y7 (fun Q hQ => hR Q (by simp [hQ])) (fun t ht => hs t (by simp [ht])) (by simpa using hl) hb' (by rw [List.length_append, List.length_singleton]; rw [List.length_cons] at ha; omega) g3 e3'
      simp only [endO, endA]
      rw [List.append_assoc] at ih
      exact ih
theorem e_end_step {k : Nat} {S : Store} (b : Bool) {Rs : List Rule} {ss : List St1} (hR : ∀ R ∈ Rs, GW R) (hs : ∀ s ∈ ss, Std1 s) (hl : Rs.length = ss.length) (hb : 2 * 2 ^ Rs.length ≤ 8000000) (hn : Rs.length ≤ 100) :
    Ok (callF pg (k + 5) "end_step" [ordD b Rs, .tup (ss.map stdD)] S) fun p => p.1 = .tup [.str (endO (rbs b Rs) ss []), .tup ((endA (rbs b Rs) ss []).map .bl)] ∧ Gr S p.2 := by
  refine call_ok (ρ := [some (ordD b Rs), some (.tup (ss.map stdD)), none, none, none, none, none, none]) fn_c_end_step rfl rfl (ss_cons ?_)
  (wp_walk using w_stp)
  refine nx (ss_cons ?_)
  (wp_walk using w_stp)
  have e3 : (S ++ [O.lst []])[S.length]? = some (.lst (([] : List Bool).map .bl)) := by simp
  have gr : Gr S (S ++ [O.lst []]) := Gr.push
  generalize S ++ [O.lst []] = S1 at e3 gr ⊢
  refine nx (ss_cons (fo2_ok ?_))
  (wp_walk using w_stp, e_rules_by_side (k := k + 2))
  refine fo2_ it_zip ?_
  rw [zip_map]
  refine (end_loop (k := k) (S0 := S) (Nat.le_refl _) (rbs b Rs) ss [] [] S1 none none none none (gw_rbs hR) hs (by rw [rbs_len]; exact hl) (by rw [rbs_len]; simpa using hb) (by rw [rbs_len]; simp; omega) gr e3).mono ?_
  rintro ⟨_, _, S3⟩ ⟨rfl, g3, f3, x4, x5, x6, x7, rfl⟩
  have f3 : S3[S.length]? = some (.lst ((endA (rbs b Rs) ss []).map .bl)) := f3
  refine nx (ss_cons ?_)
  (wp_walk using w_stp, tuple_r f3)
  exact nrt (rt ⟨rfl, g3⟩)
end Z

set_option Elab.async false
set_option linter.all false
set_option maxRecDepth 100000
set_option maxHeartbeats 4000000
namespace Z
open PySem L2 PySem.Spec PyProof.Rows
local macro_rules
  | `(tactic| wp_walk using w_stp) => `(tactic| simp only [w_okb, w_bb, w_var, w_con, w_glo, w_tup, w_lst, w_dct, w_bin, w_not, w_and, w_or, w_cmp, w_chain, w_ix, w_call, w_fld, w_new, w_meth, w_noneD, w_setf, w_blt, w_mth, w_comp, w_sl, w_rev, w_neg, w_nil, w_cons, w_and1, w_and2, w_or1, w_or2, w_asg, w_exp, w_ret, w_anm, w_asub, w_orv, w_dcn0, w_dcn1, w_whl, w_callv, w_wipe1, w_wipe2, Ok.ok_iff, subTy, List.getElem?_cons_zero, List.getElem?_cons_succ, List.set_cons_succ, List.set_cons_zero, if_true, Bool.false_eq_true, if_false, Option.map_some, Bool.not_true, Bool.not_false, Bool.true_or, Bool.or_true, Bool.false_or, Bool.or_false, Bool.true_and, Bool.and_true, Bool.false_and, Bool.and_false, eq_self, decide_true, decide_false, beq_self_eq_true, of_some, litD_f, litD_t, bin_add, bin_sub, bin_band, cmp_lti, cmp_lts, cmp_le, cmp_gt, cmp_ge, cmp_none, cmp_nnone, cmp_true, cmp_ntrue, ofB_some, cmp_in, cmp_nin, nonD_non, nonD_s, nonD_t, nonD_i, nonD_l, nonD_r, nonD_b, nonD_x, deref_s, deref_t, deref_l, deref_i, deref_b, deref_n, ok_s, ok_i, ok_b, ok_n, mem_s, flat_s, flat_i, flat_b, flat_n, ix_s, ix_t, ix_l, items_t, items_l, len_s, len_t2, len_t4, len_l, tuple_s, tuple_t, tuple_l, list_s, list_t, list_l, blt_max, blt_min, blt_all, blt_any, ty_s, ty_t, ty_l, ty_i, ty_b, ty_n, rec_join, rec_idx, rec_idxT, tupOnly_t, blt_int1, rec_idxLl, it_s, it_en, it_t, it_l, compI_sq, forI_sq, bind1, rev_s, rev_t, rev_l, blt_inrg, blt_ninrg, rec_upr, bind2, sl_t, sl_s, sl_l, part_i, eq_ss, eq_ii, eq_bb, eq_tn, eq_tc, eq_tc0, eq_t0c, in_nil, in_cons, in_strs, in_sgn, flat_map, all_true, cmp_eq_ii, cmp_eq_ss, cmp_eq_bb, cmp_ne_ii, cmp_ne_ss, bin_shrn, mem_strs, mem_strl, atI_0, atI_1, atI_2, atI_3])
  | `(tactic| wp_walk using w_stp, $[$ts:term],*) => `(tactic| simp only [w_okb, w_bb, w_var, w_con, w_glo, w_tup, w_lst, w_dct, w_bin, w_not, w_and, w_or, w_cmp, w_chain, w_ix, w_call, w_fld, w_new, w_meth, w_noneD, w_setf, w_blt, w_mth, w_comp, w_sl, w_rev, w_neg, w_nil, w_cons, w_and1, w_and2, w_or1, w_or2, w_asg, w_exp, w_ret, w_anm, w_asub, w_orv, w_dcn0, w_dcn1, w_whl, w_callv, w_wipe1, w_wipe2, Ok.ok_iff, subTy, List.getElem?_cons_zero, List.getElem?_cons_succ, List.set_cons_succ, List.set_cons_zero, if_true, Bool.false_eq_true, if_false, Option.map_some, Bool.not_true, Bool.not_false, Bool.true_or, Bool.or_true, Bool.false_or, Bool.or_false, Bool.true_and, Bool.and_true, Bool.false_and, Bool.and_false, eq_self, decide_true, decide_false, beq_self_eq_true, of_some, litD_f, litD_t, bin_add, bin_sub, bin_band, cmp_lti, cmp_lts, cmp_le, cmp_gt, cmp_ge, cmp_none, cmp_nnone, cmp_true, cmp_ntrue, ofB_some, cmp_in, cmp_nin, nonD_non, nonD_s, nonD_t, nonD_i, nonD_l, nonD_r, nonD_b, nonD_x, deref_s, deref_t, deref_l, deref_i, deref_b, deref_n, ok_s, ok_i, ok_b, ok_n, mem_s, flat_s, flat_i, flat_b, flat_n, ix_s, ix_t, ix_l, items_t, items_l, len_s, len_t2, len_t4, len_l, tuple_s, tuple_t, tuple_l, list_s, list_t, list_l, blt_max, blt_min, blt_all, blt_any, ty_s, ty_t, ty_l, ty_i, ty_b, ty_n, rec_join, rec_idx, rec_idxT, tupOnly_t, blt_int1, rec_idxLl, it_s, it_en, it_t, it_l, compI_sq, forI_sq, bind1, rev_s, rev_t, rev_l, blt_inrg, blt_ninrg, rec_upr, bind2, sl_t, sl_s, sl_l, part_i, eq_ss, eq_ii, eq_bb, eq_tn, eq_tc, eq_tc0, eq_t0c, in_nil, in_cons, in_strs, in_sgn, flat_map, all_true, cmp_eq_ii, cmp_eq_ss, cmp_eq_bb, cmp_ne_ii, cmp_ne_ss, bin_shrn, mem_strs, mem_strl, atI_0, atI_1, atI_2, atI_3, $[$ts:term],*])
/-! P9: standings sound by sound, parted -/
theorem asg_pair {G : Ctx} {ρ : Env} {S : Store} {x y : D} {i j : Nat} : asg G (.tp [.nm i, .nm j]) (.tup [x, y]) ρ S = .ok ((ρ.set i (some x)).set j (some y), S) := by
  rw [w_atp rfl]
  (wp_walk using w_stp, w_asgs, w_asgn)
theorem pow_4 {n : Nat} (h : n ≤ 4) : 2 ^ n ≤ 16 := Nat.pow_le_pow_right (n := 2) (j := 4) (by decide) h
theorem std_init {Rs : List Rule} : ∀ s ∈ Rs.map initR, Std1 s := by
  intro s hs
  obtain ⟨R, _, rfl⟩ := List.mem_map.mp hs
  exact Nat.zero_le _
theorem stepO_nil : ∀ (Rs : List Rule) (ss : List St1), Rs.length = ss.length → stepO Rs ss [] = (ss, [])
  | [], [], _ => rfl
  | [], _ :: _, h => by cases h
  | _ :: _, [], h => by cases h
  | R :: Rs, s :: ss, h => by
    rw [stepO]
    simp only [readsP]
    rw [stepO_nil Rs ss (by simpa using h)]
theorem stepO_app : ∀ (Rs : List Rule) (ss : List St1) (a b : List Char), Rs.length = ss.length → stepO Rs ss (a ++ b) = ((stepO Rs (stepO Rs ss a).1 b).1, (stepO Rs ss a).2 ++ (stepO Rs (stepO Rs ss a).1 b).2)
  | [], [], a, b, _ => rfl
  | [], _ :: _, _, _, h => by cases h
  | _ :: _, [], _, _, h => by cases h
  | R :: Rs, s :: ss, a, b, h => by
    have ih := stepO_app Rs ss (readsP R s a).2.1 (readsP R (readsP R s a).1 b).2.1 (by simpa using h)
    have ra := readsP_app R a b s
    simp only [stepO]
    rw [ra.1, ra.2, ih]
end Z

set_option Elab.async false
set_option linter.all false
set_option maxRecDepth 100000
set_option maxHeartbeats 4000000
namespace Z
open PySem L2 PySem.Spec PyProof.Rows
local macro_rules
  | `(tactic| wp_walk using w_stp) => `(tactic| simp only [w_okb, w_bb, w_var, w_con, w_glo, w_tup, w_lst, w_dct, w_bin, w_not, w_and, w_or, w_cmp, w_chain, w_ix, w_call, w_fld, w_new, w_meth, w_noneD, w_setf, w_blt, w_mth, w_comp, w_sl, w_rev, w_neg, w_nil, w_cons, w_and1, w_and2, w_or1, w_or2, w_asg, w_exp, w_ret, w_anm, w_asub, w_orv, w_dcn0, w_dcn1, w_whl, w_callv, w_wipe1, w_wipe2, Ok.ok_iff, subTy, List.getElem?_cons_zero, List.getElem?_cons_succ, List.set_cons_succ, List.set_cons_zero, if_true, Bool.false_eq_true, if_false, Option.map_some, Bool.not_true, Bool.not_false, Bool.true_or, Bool.or_true, Bool.false_or, Bool.or_false, Bool.true_and, Bool.and_true, Bool.false_and, Bool.and_false, eq_self, decide_true, decide_false, beq_self_eq_true, of_some, litD_f, litD_t, bin_add, bin_sub, bin_band, cmp_lti, cmp_lts, cmp_le, cmp_gt, cmp_ge, cmp_none, cmp_nnone, cmp_true, cmp_ntrue, ofB_some, cmp_in, cmp_nin, nonD_non, nonD_s, nonD_t, nonD_i, nonD_l, nonD_r, nonD_b, nonD_x, deref_s, deref_t, deref_l, deref_i, deref_b, deref_n, ok_s, ok_i, ok_b, ok_n, mem_s, flat_s, flat_i, flat_b, flat_n, ix_s, ix_t, ix_l, items_t, items_l, len_s, len_t2, len_t4, len_l, tuple_s, tuple_t, tuple_l, list_s, list_t, list_l, blt_max, blt_min, blt_all, blt_any, ty_s, ty_t, ty_l, ty_i, ty_b, ty_n, rec_join, rec_idx, rec_idxT, tupOnly_t, blt_int1, rec_idxLl, it_s, it_en, it_t, it_l, compI_sq, forI_sq, bind1, rev_s, rev_t, rev_l, blt_inrg, blt_ninrg, rec_upr, bind2, sl_t, sl_s, sl_l, part_i, eq_ss, eq_ii, eq_bb, eq_tn, eq_tc, eq_tc0, eq_t0c, in_nil, in_cons, in_strs, in_sgn, flat_map, all_true, cmp_eq_ii, cmp_eq_ss, cmp_eq_bb, cmp_ne_ii, cmp_ne_ss, bin_shrn, mem_strs, mem_strl, atI_0, atI_1, atI_2, atI_3])
  | `(tactic| wp_walk using w_stp, $[$ts:term],*) => `(tactic| simp only [w_okb, w_bb, w_var, w_con, w_glo, w_tup, w_lst, w_dct, w_bin, w_not, w_and, w_or, w_cmp, w_chain, w_ix, w_call, w_fld, w_new, w_meth, w_noneD, w_setf, w_blt, w_mth, w_comp, w_sl, w_rev, w_neg, w_nil, w_cons, w_and1, w_and2, w_or1, w_or2, w_asg, w_exp, w_ret, w_anm, w_asub, w_orv, w_dcn0, w_dcn1, w_whl, w_callv, w_wipe1, w_wipe2, Ok.ok_iff, subTy, List.getElem?_cons_zero, List.getElem?_cons_succ, List.set_cons_succ, List.set_cons_zero, if_true, Bool.false_eq_true, if_false, Option.map_some, Bool.not_true, Bool.not_false, Bool.true_or, Bool.or_true, Bool.false_or, Bool.or_false, Bool.true_and, Bool.and_true, Bool.false_and, Bool.and_false, eq_self, decide_true, decide_false, beq_self_eq_true, of_some, litD_f, litD_t, bin_add, bin_sub, bin_band, cmp_lti, cmp_lts, cmp_le, cmp_gt, cmp_ge, cmp_none, cmp_nnone, cmp_true, cmp_ntrue, ofB_some, cmp_in, cmp_nin, nonD_non, nonD_s, nonD_t, nonD_i, nonD_l, nonD_r, nonD_b, nonD_x, deref_s, deref_t, deref_l, deref_i, deref_b, deref_n, ok_s, ok_i, ok_b, ok_n, mem_s, flat_s, flat_i, flat_b, flat_n, ix_s, ix_t, ix_l, items_t, items_l, len_s, len_t2, len_t4, len_l, tuple_s, tuple_t, tuple_l, list_s, list_t, list_l, blt_max, blt_min, blt_all, blt_any, ty_s, ty_t, ty_l, ty_i, ty_b, ty_n, rec_join, rec_idx, rec_idxT, tupOnly_t, blt_int1, rec_idxLl, it_s, it_en, it_t, it_l, compI_sq, forI_sq, bind1, rev_s, rev_t, rev_l, blt_inrg, blt_ninrg, rec_upr, bind2, sl_t, sl_s, sl_l, part_i, eq_ss, eq_ii, eq_bb, eq_tn, eq_tc, eq_tc0, eq_t0c, in_nil, in_cons, in_strs, in_sgn, flat_map, all_true, cmp_eq_ii, cmp_eq_ss, cmp_eq_bb, cmp_ne_ii, cmp_ne_ss, bin_shrn, mem_strs, mem_strl, atI_0, atI_1, atI_2, atI_3, $[$ts:term],*])
/-! P10: rows of numbers -/
def LA (S : Store) (d : D) (ds : List D) : Prop := d = .lst ds ∨ ∃ n, d = .ref n ∧ S[n]? = some (.lst ds)
theorem LA.gr {S S' : Store} {d : D} {ds : List D} (h : LA S d ds) (g : Gr S S') : LA S' d ds := by
  rcases h with h | ⟨n, h, e⟩
  · exact .inl h
  · exact .inr ⟨n, h, g.get e⟩
theorem LA.len {S : Store} {d : D} {ds : List D} {m : Bool} (h : LA S d ds) : bltD m .len [d] S = .ok (.int ds.length, S) := by
  rcases h with rfl | ⟨n, rfl, e⟩
  · exact len_l
  · exact len_r e
theorem LA.ix {S : Store} {d : D} {ds : List D} {i : Int} {x : D} (h : LA S d ds) (hx : atI ds i = some x) : ixD d (.int i) S = .ok (x, S) := by
  rcases h with rfl | ⟨n, rfl, e⟩
  · rw [ix_l, hx]; rfl
  · rw [ix_r e, hx]; rfl
def FoI (G : Ctx) (i : Nat) (b : List Z.S) (k : IK) (ρ : Env) (Q : Fl × Env × Store → Prop) (p : List D × Store) : Prop := ∃ it, itrD k p.1 p.2 = .ok it ∧ Ok (forI (fun d ρ s => evSs G b (ρ.set i (some d)) s) it ρ p.2) Q
def Out (I : Env → Store → Prop) (A : D → Env → Store → Prop) (p : Fl × Env × Store) : Prop := (p.1 = .nx ∧ I p.2.1 p.2.2) ∨ ∃ v, p.1 = .rt v ∧ A v p.2.1 p.2.2
def Stp (I : Env → Store → Prop) (A : D → Env → Store → Prop) (p : Fl × Env × Store) : Prop := ((p.1 = .nx ∨ p.1 = .ct) ∧ I p.2.1 p.2.2) ∨ ∃ v, p.1 = .rt v ∧ A v p.2.1 p.2.2
/-! rows -/
def rowsP (N : List Nat) : Nat → List (List Nat)
  | 0 => [[]]
  | k + 1 => (rowsP N k).flatMap fun row => (N.filter fun x => decide (x ∉ row)).map fun x => row ++ [x]
def rowD (row : List Nat) : D := .tup (row.map fun (x : Nat) => .int (x : Int))
def longer (N : List Nat) (row : List Nat) : List (List Nat) := (N.filter fun x => decide (x ∉ row)).map fun x => row ++ [x]
def pick (Rs : List Rule) (row : List Nat) : List Rule := row.filterMap fun i => Rs[i]?
end Z

set_option Elab.async false
set_option linter.all false
set_option maxRecDepth 100000
set_option maxHeartbeats 4000000
namespace Z
open PySem L2 PySem.Spec PyProof.Rows
/-! P11: comprehensions over lists of the store; orderings that tell a book -/
/-! rows as keys -/
def krow (row : List Nat) : NestedKey := .tup (row.map fun (x : Nat) => NestedKey.num (x : Int))
theorem in_putN {ks vs : List D} {c d : D} {kc k : NestedKey} (h : keyN c = some kc) : inN k (putN ks vs c kc d).1 = (inN k ks || decide (kc = k)) ∧ (putN ks vs c kc d).1.length ≤ ks.length + 1 := by
  unfold putN
  split
  · rename_i hi
    refine ⟨?_, Nat.le_succ _⟩
    show inN k ks = _
    by_cases e : kc = k
    · subst e; rw [hi]; simp
    · simp [e]
  · refine ⟨?_, by simp⟩
    show inN k (ks ++ [c]) = _
    unfold inN
    rw [List.any_append]
    simp [h]
/-! who tells -/
def TL (b : Bool) (bk : Kv) (Rs : List Rule) (i : Nat) (row : List Nat) : Bool := match bk[i]? with
  | some p => decide (madeS b p.1 (pick Rs row) = p.2)
  | none => true
abbrev ords (n : Nat) : List (List Nat) := rowsP (List.range n) n
def allT (b : Bool) (bk : Kv) (Rs : List Rule) (nums : List Nat) : List (List Nat) := (ords Rs.length).filter fun row => nums.all fun i => TL b bk Rs i row
def quarP (b : Bool) (bk : Kv) (Rs : List Rule) : List Nat := (List.range bk.length).foldl (fun nums i => if allT b bk Rs (nums.filter fun x => decide (x ≠ i)) = [] then nums.filter fun x => decide (x ≠ i) else nums) (List.range bk.length)
def Kn (S : Store) (m : Nat) (b : Bool) (bk : Kv) (Rs : List Rule) (many : Nat) : Prop := ∃ refs : List Nat, S[m]? = some (.lst (refs.map .ref)) ∧ refs.length = many ∧ ∀ i, i < many → ∃ r ks vs, refs[i]? = some r ∧ S[r]? = some (.dcn ks vs) ∧ ∀ row ∈ ords Rs.length, inN (krow row) ks = TL b bk Rs i row
theorem Kn.gr {S S' : Store} {m : Nat} {b : Bool} {bk : Kv} {Rs : List Rule} {many : Nat} (h : Kn S m b bk Rs many) (g : Gr S S') : Kn S' m b bk Rs many := by
  obtain ⟨refs, h1, h2, h3⟩ := h
  refine ⟨refs, g.get h1, h2, fun i hi => ?_⟩
  obtain ⟨r, ks, vs, e1, e2, e3⟩ := h3 i hi
  exact ⟨r, ks, vs, e1, g.get e2, e3⟩
/-! told -/
def quarS (b : Bool) (bk : Kv) (Rs : List Rule) (nums : List Nat) (i : Nat) : List Nat := if allT b bk Rs (nums.filter fun x => decide (x ≠ i)) = [] then nums.filter fun x => decide (x ≠ i) else nums
def toldD (b : Bool) (bk : Kv) (Rs : List Rule) : D := if allT b bk Rs (List.range bk.length) = [] then .tup [.str ['q', 'u', 'a', 'r', 'r', 'e', 'l'], .tup ((quarP b bk Rs).map fun (x : Nat) => .int (x : Int))] else .tup [.str ['t', 'o', 'l', 'd'], .tup ((allT b bk Rs (List.range bk.length)).map rowD)]
end Z

set_option Elab.async false
set_option linter.all false
set_option maxRecDepth 100000
set_option maxHeartbeats 1000000
namespace Z
open PySem L2 PySem.Spec PyProof.Rows
local macro_rules
  | `(tactic| wp_walk using w_stp) => `(tactic| simp only [w_okb, w_bb, w_var, w_con, w_glo, w_tup, w_lst, w_dct, w_bin, w_not, w_and, w_or, w_cmp, w_chain, w_ix, w_call, w_fld, w_new, w_meth, w_noneD, w_setf, w_blt, w_mth, w_comp, w_sl, w_rev, w_neg, w_nil, w_cons, w_and1, w_and2, w_or1, w_or2, w_asg, w_exp, w_ret, w_anm, w_asub, w_orv, w_dcn0, w_dcn1, w_whl, w_callv, w_wipe1, w_wipe2, Ok.ok_iff, subTy, List.getElem?_cons_zero, List.getElem?_cons_succ, List.set_cons_succ, List.set_cons_zero, if_true, Bool.false_eq_true, if_false, Option.map_some, Bool.not_true, Bool.not_false, Bool.true_or, Bool.or_true, Bool.false_or, Bool.or_false, Bool.true_and, Bool.and_true, Bool.false_and, Bool.and_false, eq_self, decide_true, decide_false, beq_self_eq_true, of_some, litD_f, litD_t, bin_add, bin_sub, bin_band, cmp_lti, cmp_lts, cmp_le, cmp_gt, cmp_ge, cmp_none, cmp_nnone, cmp_true, cmp_ntrue, ofB_some, cmp_in, cmp_nin, nonD_non, nonD_s, nonD_t, nonD_i, nonD_l, nonD_r, nonD_b, nonD_x, deref_s, deref_t, deref_l, deref_i, deref_b, deref_n, ok_s, ok_i, ok_b, ok_n, mem_s, flat_s, flat_i, flat_b, flat_n, ix_s, ix_t, ix_l, items_t, items_l, len_s, len_t2, len_t4, len_l, tuple_s, tuple_t, tuple_l, list_s, list_t, list_l, blt_max, blt_min, blt_all, blt_any, ty_s, ty_t, ty_l, ty_i, ty_b, ty_n, rec_join, rec_idx, rec_idxT, tupOnly_t, blt_int1, rec_idxLl, it_s, it_en, it_t, it_l, compI_sq, forI_sq, bind1, rev_s, rev_t, rev_l, blt_inrg, blt_ninrg, rec_upr, bind2, sl_t, sl_s, sl_l, part_i, eq_ss, eq_ii, eq_bb, eq_tn, eq_tc, eq_tc0, eq_t0c, in_nil, in_cons, in_strs, in_sgn, flat_map, all_true, cmp_eq_ii, cmp_eq_ss, cmp_eq_bb, cmp_ne_ii, cmp_ne_ss, bin_shrn, mem_strs, mem_strl, atI_0, atI_1, atI_2, atI_3])
  | `(tactic| wp_walk using w_stp, $[$ts:term],*) => `(tactic| simp only [w_okb, w_bb, w_var, w_con, w_glo, w_tup, w_lst, w_dct, w_bin, w_not, w_and, w_or, w_cmp, w_chain, w_ix, w_call, w_fld, w_new, w_meth, w_noneD, w_setf, w_blt, w_mth, w_comp, w_sl, w_rev, w_neg, w_nil, w_cons, w_and1, w_and2, w_or1, w_or2, w_asg, w_exp, w_ret, w_anm, w_asub, w_orv, w_dcn0, w_dcn1, w_whl, w_callv, w_wipe1, w_wipe2, Ok.ok_iff, subTy, List.getElem?_cons_zero, List.getElem?_cons_succ, List.set_cons_succ, List.set_cons_zero, if_true, Bool.false_eq_true, if_false, Option.map_some, Bool.not_true, Bool.not_false, Bool.true_or, Bool.or_true, Bool.false_or, Bool.or_false, Bool.true_and, Bool.and_true, Bool.false_and, Bool.and_false, eq_self, decide_true, decide_false, beq_self_eq_true, of_some, litD_f, litD_t, bin_add, bin_sub, bin_band, cmp_lti, cmp_lts, cmp_le, cmp_gt, cmp_ge, cmp_none, cmp_nnone, cmp_true, cmp_ntrue, ofB_some, cmp_in, cmp_nin, nonD_non, nonD_s, nonD_t, nonD_i, nonD_l, nonD_r, nonD_b, nonD_x, deref_s, deref_t, deref_l, deref_i, deref_b, deref_n, ok_s, ok_i, ok_b, ok_n, mem_s, flat_s, flat_i, flat_b, flat_n, ix_s, ix_t, ix_l, items_t, items_l, len_s, len_t2, len_t4, len_l, tuple_s, tuple_t, tuple_l, list_s, list_t, list_l, blt_max, blt_min, blt_all, blt_any, ty_s, ty_t, ty_l, ty_i, ty_b, ty_n, rec_join, rec_idx, rec_idxT, tupOnly_t, blt_int1, rec_idxLl, it_s, it_en, it_t, it_l, compI_sq, forI_sq, bind1, rev_s, rev_t, rev_l, blt_inrg, blt_ninrg, rec_upr, bind2, sl_t, sl_s, sl_l, part_i, eq_ss, eq_ii, eq_bb, eq_tn, eq_tc, eq_tc0, eq_t0c, in_nil, in_cons, in_strs, in_sgn, flat_map, all_true, cmp_eq_ii, cmp_eq_ss, cmp_eq_bb, cmp_ne_ii, cmp_ne_ss, bin_shrn, mem_strs, mem_strl, atI_0, atI_1, atI_2, atI_3, $[$ts:term],*])
/-! R1: all standings that are come to -/
theorem whl_meas {c : Env → Store → R (D × Store)} {f : Env → Store → R (Fl × Env × Store)} {Q : Fl × Env × Store → Prop} (I : Nat → Env → Store → Prop)
    (st : ∀ m ρ S, I m ρ S → Ok (c ρ S) fun p => (p.1 = .bl false ∧ Q (.nx, ρ, p.2)) ∨ (p.1 = .bl true ∧ Ok (f ρ p.2) fun q => (q.1 = .nx ∨ q.1 = .ct) ∧ ∃ m', m' < m ∧ I m' q.2.1 q.2.2)) :
    ∀ (n m : Nat) {ρ : Env} {S : Store}, m < n → I m ρ S → Ok (whlN c f n ρ S) Q
  | 0, m, _, _, h, _ => by omega
  | n + 1, m, ρ, S, h, hI => by
    obtain ⟨⟨v, S1⟩, e, q⟩ := st m ρ S hI
    rcases q with ⟨q1, q2⟩ | ⟨q1, q2⟩
    · exact whl_end ⟨_, e, q1, q2⟩
    · refine whl_go ⟨_, e, q1, q2.mono ?_⟩
      rintro ⟨fl, ρ', S'⟩ ⟨q3, m', h', hI'⟩
      exact ⟨q3, whl_meas I st n m' (by omega) hI'⟩
/-! standings as keys -/
def sD1 (ss : List St1) : D := .tup (ss.map stdD)
def ks1 (s : St1) : NestedKey := .tup [.num (if s.1 = true then 1 else 0), .text ⟨(s.2.map Char.toNat).toArray⟩]
def ksd (ss : List St1) : NestedKey := .tup (ss.map ks1)
theorem nk_stds : ∀ ss : List St1, nkDs (ss.map stdD) = some (ss.map ks1)
  | [] => rfl
  | s :: ss => by
    rw [List.map_cons, nkDs, nk_stds ss]
    rfl
theorem dep_stds : ∀ ss : List St1, NestedKey.depthAll (ss.map ks1) ≤ 1
  | [] => by simp [NestedKey.depthAll]
  | s :: ss => by
    have h := dep_stds ss
    rw [List.map_cons, NestedKey.depthAll]
    have : (ks1 s).depth ≤ 1 := by
      unfold ks1
      simp [NestedKey.depth, NestedKey.depthAll]
    omega
theorem key_std (ss : List St1) : keyN (sD1 ss) = some (ksd ss) := by
  unfold sD1 ksd
  rw [keyN, nk_stds]
  show (if (NestedKey.tup _).depth ≤ 8 then _ else _) = _
  rw [if_pos (by rw [NestedKey.depth]; have := dep_stds ss; omega)]
theorem ks1_inj {a c : St1} (h : ks1 a = ks1 c) : a = c := by
  obtain ⟨a1, a2⟩ := a
  obtain ⟨c1, c2⟩ := c
  unfold ks1 at h
  simp only [NestedKey.tup.injEq, List.cons.injEq, NestedKey.num.injEq, NestedKey.text.injEq, and_true] at h
  have h2 : toS a2 = toS c2 := h.2
  rw [toS_inj h2]
  cases a1 <;> cases c1 <;> first | rfl | (simp at h)
theorem ksd_inj : ∀ {a c : List St1}, ksd a = ksd c → a = c := by
  intro a
  induction a with
  | nil =>
    intro c h
    cases c with
    | nil => rfl
    | cons x c => simp [ksd] at h
  | cons x a ih =>
    intro c h
    cases c with
    | nil => simp [ksd] at h
    | cons y c =>
      simp only [ksd, List.map_cons, NestedKey.tup.injEq, List.cons.injEq] at h
      rw [ks1_inj h.1, ih (c := c) (by unfold ksd; rw [h.2])]
/-! how many there may be -/
def lateS (ss : List Char) : List St1 := ss.flatMap fun c => [(true, [c]), (false, [c])]
def candS (ss : List Char) : List Rule → List (List St1)
  | [] => [[]]
  | R :: Rs => ((R :: Rs).map initR) :: (lateS ss).flatMap fun s => (candS ss Rs).map (s :: ·)
def manyS (m : Nat) : Nat → Nat
  | 0 => 1
  | n + 1 => 1 + 2 * m * manyS m n
theorem fm_len {A B : Type} {f : A → List B} {n : Nat} : ∀ {xs : List A}, (∀ x ∈ xs, (f x).length = n) → (xs.flatMap f).length = xs.length * n
  | [], _ => by simp
  | x :: xs, h => by
    rw [List.flatMap_cons, List.length_append, h x (by simp), fm_len fun y hy => h y (by simp [hy]), List.length_cons, Nat.succ_mul, Nat.add_comm]
theorem late_len (ss : List Char) : (lateS ss).length = ss.length * 2 := fm_len fun _ _ => rfl
theorem cand_len (ss : List Char) : ∀ Rs : List Rule, (candS ss Rs).length = manyS ss.length Rs.length
  | [] => rfl
  | R :: Rs => by
    rw [candS, List.length_cons, fm_len (n := (candS ss Rs).length) fun _ _ => List.length_map _, late_len, cand_len ss Rs, List.length_cons, manyS, Nat.mul_comm ss.length 2, Nat.add_comm]
theorem init_cand (ss : List Char) : ∀ Rs : List Rule, Rs.map initR ∈ candS ss Rs
  | [] => by simp [candS]
  | R :: Rs => by simp [candS]
theorem mem_late {ss : List Char} {s : St1} : s ∈ lateS ss ↔ ∃ c ∈ ss, s.2 = [c] := by
  unfold lateS
  simp only [List.mem_flatMap, List.mem_cons, List.not_mem_nil, or_false]
  constructor
  · rintro ⟨c, hc, rfl | rfl⟩ <;> exact ⟨c, hc, rfl⟩
  · rintro ⟨c, hc, h⟩
    obtain ⟨a, x⟩ := s
    simp only at h
    subst h
    exact ⟨c, hc, by cases a <;> simp⟩
theorem mem_cand_cons {ss : List Char} {R : Rule} {Rs : List Rule} {s : St1} {t : List St1} (h1 : s ∈ lateS ss) (h2 : t ∈ candS ss Rs) : s :: t ∈ candS ss (R :: Rs) := by
  unfold candS
  refine List.mem_cons_of_mem _ (List.mem_flatMap.mpr ⟨s, h1, List.mem_map.mpr ⟨t, h2, rfl⟩⟩)
theorem cand_cons {ss : List Char} {R : Rule} {Rs : List Rule} {x : List St1} (h : x ∈ candS ss (R :: Rs)) : ∃ s t, x = s :: t ∧ t ∈ candS ss Rs ∧ Over ss s.2 := by
  unfold candS at h
  rcases List.mem_cons.mp h with rfl | h
  · exact ⟨initR R, Rs.map initR, rfl, init_cand ss Rs, fun _ h => nomatch h⟩
  · obtain ⟨s, hs, h⟩ := List.mem_flatMap.mp h
    obtain ⟨t, ht, rfl⟩ := List.mem_map.mp h
    obtain ⟨c, hc, e⟩ := mem_late.mp hs
    exact ⟨s, t, rfl, ht, fun x hx => by rw [e] at hx; rw [List.mem_singleton.mp hx]; exact hc⟩
theorem over_look {ss : List Char} {R : Rule} (g : GR ss R) {a : List Char} (h : a ∈ R.ch.map (·.1)) : Over ss (look R.ch a) := g.2 _ (findK_look h).2
theorem over_put {ss : List Char} {R : Rule} (g : GR ss R) : Over ss (putTx R) := by
  unfold putTx
  cases h : R.ch with
  | nil => exact fun _ h => nomatch h
  | cons p ch =>
    obtain ⟨a, b⟩ := p
    exact g.2 (a, b) (by rw [h]; simp)
theorem stepR_over {ss : List Char} {R : Rule} (g : GR ss R) {s : St1} (hs : Over ss s.2) (c : Char) : (stepR R s c).1.2 = [c] ∧ Over ss (stepR R s c).2.1 := by
  unfold stepR
  split
  · refine ⟨rfl, ?_⟩
    show Over ss (if s.1 && fitB R.r c then s.2 ++ putTx R else s.2)
    split
    · exact fun x hx => (List.mem_append.mp hx).elim (hs x) (over_put g x)
    · exact hs
  · unfold chStep
    split
    · exact ⟨rfl, fun _ h => nomatch h⟩
    · rename_i h t e
      refine ⟨rfl, ?_⟩
      show Over ss (chPut R s.1 h c)
      unfold chPut
      split
      · rename_i q
        simp only [Bool.and_eq_true, decide_eq_true_eq] at q
        exact over_look g q.1.1
      · intro x hx
        rw [List.mem_singleton.mp hx]
        exact hs h (by rw [e]; simp)
theorem reads_over {ss : List Char} {R : Rule} (g : GR ss R) : ∀ (u : List Char) {s : St1}, Over ss s.2 → Over ss u → Over ss (readsP R s u).1.2 ∧ Over ss (readsP R s u).2.1 ∧ (u ≠ [] → (readsP R s u).1 ∈ lateS ss)
  | [], s, hs, _ => ⟨hs, fun _ h => (nomatch h), fun h => absurd rfl h⟩
  | c :: u, s, hs, hu => by
    obtain ⟨h1, h2⟩ := stepR_over g hs c
    have hc : c ∈ ss := hu c (by simp)
    have h1o : Over ss (stepR R s c).1.2 := by rw [h1]; intro x hx; rw [List.mem_singleton.mp hx]; exact hc
    obtain ⟨i1, i2, i3⟩ := reads_over g u h1o fun x hx => hu x (by simp [hx])
    refine ⟨i1, fun x hx => (List.mem_append.mp hx).elim (h2 x) (i2 x), fun _ => ?_⟩
    show (readsP R (stepR R s c).1 u).1 ∈ lateS ss
    cases u with
    | nil => exact mem_late.mpr ⟨c, hc, h1⟩
    | cons d u => exact i3 (by simp)
theorem step_cand {ss : List Char} : ∀ (Rs : List Rule) (x : List St1) (u : List Char), (∀ R ∈ Rs, GR ss R) → x ∈ candS ss Rs → Over ss u → (stepO Rs x u).1 ∈ candS ss Rs ∧ Over ss (stepO Rs x u).2
  | [], x, u, _, hx, hu => by
    unfold candS at hx ⊢
    rw [List.mem_singleton] at hx
    subst hx
    exact ⟨List.mem_singleton.mpr rfl, hu⟩
  | R :: Rs, x, u, g, hx, hu => by
    have hx' := hx
    obtain ⟨s, t, rfl, ht, hs⟩ := cand_cons hx
    obtain ⟨r1, r2, r3⟩ := reads_over (g R (by simp)) u hs hu
    obtain ⟨i1, i2⟩ := step_cand Rs t (readsP R s u).2.1 (fun Q hQ => g Q (by simp [hQ])) ht r2
    refine ⟨?_, i2⟩
    by_cases h0 : u = []
    · subst h0
      have hl : (R :: Rs).length = (s :: t).length := by
        have : ∀ (Rs : List Rule) (x : List St1), x ∈ candS ss Rs → Rs.length = x.length := by
          intro Rs
          induction Rs with
          | nil =>
            intro x hx
            unfold candS at hx
            rw [List.mem_singleton.mp hx]
            rfl
          | cons R Rs ih =>
            intro x hx
            obtain ⟨s, t, rfl, ht, _⟩ := cand_cons hx
            simp [ih t ht]
        exact this _ _ hx'
      rw [stepO_nil _ _ hl]
      exact hx'
    · exact mem_cand_cons (r3 h0) i1
theorem cand_size {ss : List Char} : ∀ {Rs : List Rule} {x : List St1}, x ∈ candS ss Rs → Rs.length = x.length
  | [], x, hx => by
    unfold candS at hx
    rw [List.mem_singleton.mp hx]
    rfl
  | R :: Rs, x, hx => by
    obtain ⟨s, t, rfl, ht, _⟩ := cand_cons hx
    simp [cand_size ht]
theorem cand_std {ss : List Char} : ∀ {Rs : List Rule} {x : List St1}, x ∈ candS ss Rs → ∀ s ∈ x, Std1 s
  | [], x, hx, s, h => by
    unfold candS at hx
    rw [List.mem_singleton.mp hx] at h
    cases h
  | R :: Rs, x, hx, s, h => by
    unfold candS at hx
    rcases List.mem_cons.mp hx with rfl | hx
    · exact std_init s h
    · obtain ⟨s0, hs, hx⟩ := List.mem_flatMap.mp hx
      obtain ⟨t, ht, rfl⟩ := List.mem_map.mp hx
      obtain ⟨c, _, e⟩ := mem_late.mp hs
      rcases List.mem_cons.mp h with rfl | h
      · unfold Std1
        rw [e]
        exact Nat.le_refl 1
      · exact cand_std ht s h
theorem nod_le {A : Type} : ∀ {l m : List A}, l.Nodup → (∀ x ∈ l, x ∈ m) → l.length ≤ m.length := fun h g => nod_len h g
/-! what is told -/
abbrev Row := List St1 × List Char
def rowSD (r : Row) : D := .tup [sD1 r.1, .str r.2]
structure RI (ss : List Char) (Rs : List Rule) (at' : Nat) (rows : List Row) : Prop where
  hd : ∃ t, rows = (Rs.map initR, []) :: t
  nd : (rows.map (·.1)).Nodup
  cd : ∀ r ∈ rows, r.1 ∈ candS ss Rs
  wd : ∀ r ∈ rows, Over ss r.2 ∧ (stepO Rs (Rs.map initR) r.2).1 = r.1
  wl : ∀ r ∈ rows, r.2.length ≤ rows.length
  al : at' ≤ rows.length
  cl : ∀ i, i < at' → ∀ r, rows[i]? = some r → ∀ c ∈ ss, (stepO Rs r.1 [c]).1 ∈ rows.map (·.1)
theorem RI.len {ss : List Char} {Rs : List Rule} {at' : Nat} {rows : List Row} (h : RI ss Rs at' rows) : rows.length ≤ manyS ss.length Rs.length := by
  have := nod_le h.nd (m := candS ss Rs) fun x hx => by
    obtain ⟨r, hr, rfl⟩ := List.mem_map.mp hx
    exact h.cd r hr
  rw [List.length_map, cand_len] at this
  exact this
def Few (ss : List Char) (Rs : List Rule) : Prop := ∀ (at' : Nat) (rows : List Row), RI ss Rs at' rows → rows.length ≤ 600
theorem few_of {ss : List Char} {Rs : List Rule} (h : manyS ss.length Rs.length ≤ 600) : Few ss Rs := fun _ _ ri => Nat.le_trans ri.len h
theorem RI.pos {ss : List Char} {Rs : List Rule} {at' : Nat} {rows : List Row} (h : RI ss Rs at' rows) : 0 < rows.length := by
  obtain ⟨t, e⟩ := h.hd
  rw [e]
  exact Nat.succ_pos _
theorem RI.init {ss : List Char} {Rs : List Rule} : RI ss Rs 0 [(Rs.map initR, [])] := by
  refine ⟨⟨[], rfl⟩, by simp, fun r hr => ?_, fun r hr => ?_, fun r hr => ?_, Nat.zero_le _, fun i hi => absurd hi (Nat.not_lt_zero _)⟩
  · rw [List.mem_singleton.mp hr]
    exact init_cand ss Rs
  · rw [List.mem_singleton.mp hr]
    exact ⟨fun _ h => (nomatch h), by rw [stepO_nil _ _ (by simp)]⟩
  · rw [List.mem_singleton.mp hr]
    exact Nat.zero_le _
theorem RI.add {ss : List Char} {Rs : List Rule} {at' : Nat} {rows : List Row} {r : Row} {c : Char} (g : ∀ R ∈ Rs, GR ss R) (h : RI ss Rs at' rows) (hr : r ∈ rows) (hc : c ∈ ss) (hl : r.2.length + 1 ≤ rows.length + 1) (hn : (stepO Rs r.1 [c]).1 ∉ rows.map (·.1)) : RI ss Rs at' (rows ++ [((stepO Rs r.1 [c]).1, r.2 ++ [c])]) := by
  have hcs : Over ss [c] := fun x hx => by rw [List.mem_singleton.mp hx]; exact hc
  refine ⟨?_, ?_, fun q hq => ?_, fun q hq => ?_, fun q hq => ?_, by rw [List.length_append]; have := h.al; omega, fun i hi q hq d hd => ?_⟩
  · obtain ⟨t, e⟩ := h.hd
    exact ⟨t ++ [_], by rw [e]; rfl⟩
  · rw [List.map_append]
    refine List.nodup_append.mpr ⟨h.nd, by simp, fun x hx y hy e => ?_⟩
    simp only [List.map_cons, List.map_nil, List.mem_singleton] at hy
    subst hy
    subst e
    exact hn hx
  · rcases List.mem_append.mp hq with hq | hq
    · exact h.cd q hq
    · rw [List.mem_singleton.mp hq]
      exact (step_cand Rs _ _ g (h.cd r hr) hcs).1
  · rcases List.mem_append.mp hq with hq | hq
    · exact h.wd q hq
    · rw [List.mem_singleton.mp hq]
      obtain ⟨w1, w2⟩ := h.wd r hr
      refine ⟨fun x hx => (List.mem_append.mp hx).elim (w1 x) (hcs x), ?_⟩
      rw [stepO_app _ _ _ _ (by simp), w2]
  · rw [List.length_append, List.length_singleton]
    rcases List.mem_append.mp hq with hq | hq
    · have := h.wl q hq
      omega
    · rw [List.mem_singleton.mp hq, List.length_append, List.length_singleton]
      exact hl
  · rw [List.map_append]
    have hlt : i < rows.length := Nat.lt_of_lt_of_le hi h.al
    rw [List.getElem?_append_left hlt] at hq
    exact List.mem_append_left _ (h.cl i hi q hq d hd)
theorem RI.next {ss : List Char} {Rs : List Rule} {at' : Nat} {rows : List Row} {r : Row} (h : RI ss Rs at' rows) (hr : rows[at']? = some r) (hc : ∀ c ∈ ss, (stepO Rs r.1 [c]).1 ∈ rows.map (·.1)) : RI ss Rs (at' + 1) rows := by
  refine ⟨h.hd, h.nd, h.cd, h.wd, h.wl, (List.getElem?_eq_some_iff.mp hr).1, fun i hi q hq d hd => ?_⟩
  by_cases hlt : i < at'
  · exact h.cl i hlt q hq d hd
  · have : i = at' := by omega
    subst this
    rw [hr] at hq
    cases hq
    exact hc d hd
theorem sds_chars {st : Stk} {ss : List Char} (h : st.map (·.1) = ss) : (sds st).map D.str = ss.map fun c => D.str [c] := by
  rw [← h]
  show (st.map fun p => [p.1]).map D.str = (st.map (·.1)).map fun c => D.str [c]
  rw [List.map_map, List.map_map]
  rfl
theorem gl_MOSTS : pg.glo "MOST_STANDINGS" = some (.int 600) := by kernel_rfl
def rB : List Z.S := [.asg (.nm 8) (.ix (.call "read_on" [.var 1, .var 6, .var 5]) (.con (.int 0))),
      .ite (.cmp .notIn (.var 8) (.var 3)) [.asg (.sub (.var 3) (.var 8)) (.con (.bl true)),
      .exp (.mth .append (.var 2) [.tup [.var 8, .bin .add (.var 7) (.var 5)]])] []]
def rW : List Z.S := [.asg (.tp [.nm 6, .nm 7]) (.ix (.var 2) (.var 4)),
      .asg (.nm 4) (.bin .add (.var 4) (.con (.int 1))),
      .fo [5] true .sq [.call "sounds_of" [.var 0]] rB,
      .ite (.cmp .gt (.blt false .len [.var 2]) (.glo "MOST_STANDINGS")) [.rse] []]
theorem c_reached_pt : c_reached = ⟨2, 9, [.asg (.nm 2) (.lst true [.tup [.call "first_standing" [.var 1], .con (.str [])]]),
    .asg (.nm 3) (.dcn [.ix (.ix (.var 2) (.con (.int 0))) (.con (.int 0))] [.con (.bl true)]),
    .asg (.nm 4) (.con (.int 0)),
    .whl (.cmp .lt (.var 4) (.blt false .len [.var 2])) rW,
    .ret (.var 2)]⟩ := rfl
structure RS (S0 S : Store) (m1 m2 : Nat) (rows : List Row) : Prop where
  gr : Gr S0 S
  l1 : S0.length ≤ m1
  l2 : S0.length ≤ m2
  f : S[m1]? = some (.lst (rows.map rowSD))
  d : ∃ ks vs, S[m2]? = some (.dcn ks vs) ∧ ks.length ≤ rows.length ∧ ∀ x, inN (ksd x) ks = decide (x ∈ rows.map (·.1))
theorem RS.more {S0 S S' : Store} {m1 m2 : Nat} {rows : List Row} (h : RS S0 S m1 m2 rows) (g : Gr S S') : RS S0 S' m1 m2 rows := by
  obtain ⟨ks, vs, e1, e2, e3⟩ := h.d
  exact ⟨h.gr.trans g, h.l1, h.l2, g.get h.f, ks, vs, g.get e1, e2, e3⟩
abbrev cx (k : Nat) : Ctx := ⟨callF pg k, pg.glo, pg.fuel⟩
theorem reach_one' {k : Nat} {b : Bool} {Rs : List Rule} {ss : List Char} {S0 S : Store} {m1 m2 at' : Nat} {rows : List Row} {r : Row} {c : Char} {x0 x4 x8 : Option D} (hR : ∀ R ∈ Rs, GW R) (hG : ∀ R ∈ rbs b Rs, GR ss R) (hn : Rs.length ≤ 4) (hlen : rows.length ≤ 700)
    (ri : RI ss (rbs b Rs) at' rows) (rs : RS S0 S m1 m2 rows) (hr : r ∈ rows) (hc : c ∈ ss) :
    Ok (evSs (cx (k + 6)) rB [x0, some (ordD b Rs), some (.ref m1), some (.ref m2), x4, some (.str [c]), some (sD1 r.1), some (.str r.2), x8] S) fun p => p.1 = .nx ∧ ∃ rows' x8, RI ss (rbs b Rs) at' rows' ∧ RS S0 p.2.2 m1 m2 rows' ∧ (∃ t, rows' = rows ++ t ∧ t.length ≤ 1) ∧ (stepO (rbs b Rs) r.1 [c]).1 ∈ rows'.map (·.1) ∧ p.2.1 = [x0, some (ordD b Rs), some (.ref m1), some (.ref m2), x4, some (.str [c]), some (sD1 r.1), some (.str r.2), x8] := by
  have hst := cand_std (ri.cd r hr)
  have hsz : Rs.length = r.1.length := by rw [← cand_size (ri.cd r hr), rbs_len]
  have p4 : 2 ^ Rs.length ≤ 16 := pow_4 hn
  have hw := ri.wl r hr
  obtain ⟨⟨v, S1⟩, e, hv, g1⟩ := e_read_on (k := k) (S := S) b (u := [c]) hR hst hsz (by rw [List.length_singleton]; omega) (by omega)
  simp only at hv
  subst hv
  replace g1 : Gr S S1 := g1
  rw [show sD1 r.1 = .tup (r.1.map stdD) from rfl]
  unfold rB
  refine ss_cons ?_
  (wp_walk using w_stp, show callF pg (k + 6) "read_on" [ordD b Rs, .tup (r.1.map stdD), .str [c]] S = _ from e, atI_0)
  refine nx (ss_cons (ite_ok ?_))
  have rs1 := rs.more g1
  obtain ⟨ks, vs, d1, d2, d3⟩ := rs1.d
  generalize hx : (stepO (rbs b Rs) r.1 [c]).1 = x
  have hk : keyN (.tup (x.map stdD)) = some (ksd x) := key_std x
  (wp_walk using w_stp, mem_n d1 hk, d3 x)
  by_cases hin : x ∈ rows.map (·.1)
  · have e1 : decide (x ∈ rows.map (·.1)) = true := decide_eq_true hin
    (wp_walk using w_stp, e1)
    exact i_f (ss_nil (nx (ss_nil ⟨rfl, rows, _, ri, rs1, ⟨[], by simp, Nat.zero_le _⟩, hin, rfl⟩)))
  · have e1 : decide (x ∈ rows.map (·.1)) = false := decide_eq_false hin
    (wp_walk using w_stp, e1)
    refine i_t (ss_cons ?_)
    (wp_walk using w_stp, put_n d1 hk (by rw [sizeL]; omega))
    refine nx (ss_cons ?_)
    have h12 : m2 ≠ m1 := fun z => by
      have := rs1.f
      rw [← z, d1] at this
      cases this
    have f2 : (S1.set m2 (.dcn (putN ks vs (.tup (x.map stdD)) (ksd x) (.bl true)).1 (putN ks vs (.tup (x.map stdD)) (ksd x) (.bl true)).2))[m1]? = some (.lst (rows.map rowSD)) := set_other rs1.f h12
    have ad : ∀ S : Store, binD .add (.str r.2) (.str [c]) S = .ok (.str (r.2 ++ [c]), S) := fun S => adds_ok (by rw [List.length_singleton]; omega)
    (wp_walk using w_stp, rec_app f2, ad, mth_app f2 (by rw [List.length_map, sizeL]; omega))
    have ri2 := ri.add (c := c) hG hr hc (by omega) (by rw [hx]; exact hin)
    rw [hx] at ri2
    have rs2 : RS S0 ((S1.set m2 (.dcn (putN ks vs (.tup (x.map stdD)) (ksd x) (.bl true)).1 (putN ks vs (.tup (x.map stdD)) (ksd x) (.bl true)).2)).set m1 (.lst (rows.map rowSD ++ [.tup [.tup (x.map stdD), .str (r.2 ++ [c])]]))) m1 m2 (rows ++ [(x, r.2 ++ [c])]) := by
      refine ⟨(rs1.gr.late rs1.l2).late rs1.l1, rs1.l1, rs1.l2, ?_, _, _, set_other (set_same d1) (Ne.symm h12), ?_, fun y => ?_⟩
      · rw [set_same f2, List.map_append]
        rfl
      · have := (in_putN (ks := ks) (vs := vs) (d := .bl true) (k := ksd x) hk).2
        rw [List.length_append, List.length_singleton]
        omega
      · rw [(in_putN (ks := ks) (vs := vs) (d := .bl true) (k := ksd y) hk).1, d3 y, List.map_append]
        rw [Bool.eq_iff_iff]
        simp only [Bool.or_eq_true, decide_eq_true_eq, List.mem_append, List.map_cons, List.map_nil, List.mem_singleton]
        constructor
        · rintro (h | h)
          · exact .inl h
          · exact .inr (ksd_inj h).symm
        · rintro (h | h)
          · exact .inl h
          · exact .inr (by rw [h])
    exact nx (ss_nil (nx (ss_nil ⟨rfl, _, _, ri2, rs2, ⟨_, rfl, Nat.le_refl _⟩, by simp, rfl⟩)))
theorem reach_one {k : Nat} {b : Bool} {Rs : List Rule} {ss : List Char} {S0 S : Store} {m1 m2 at' : Nat} {rows : List Row} {r : Row} {c : Char} {x0 x4 x8 : Option D} (hR : ∀ R ∈ Rs, GW R) (hG : ∀ R ∈ rbs b Rs, GR ss R) (hn : Rs.length ≤ 4) (hlen : rows.length ≤ 700)
    (ri : RI ss (rbs b Rs) at' rows) (rs : RS S0 S m1 m2 rows) (hr : r ∈ rows) (hc : c ∈ ss) :
    Ok (evSs (cx (k + 6)) rB [x0, some (ordD b Rs), some (.ref m1), some (.ref m2), x4, some (.str [c]), some (sD1 r.1), some (.str r.2), x8] S) fun p => p.1 = .nx ∧ ∃ rows' x8, RI ss (rbs b Rs) at' rows' ∧ RS S0 p.2.2 m1 m2 rows' ∧ (∃ t, rows' = rows ++ t) ∧ (stepO (rbs b Rs) r.1 [c]).1 ∈ rows'.map (·.1) ∧ p.2.1 = [x0, some (ordD b Rs), some (.ref m1), some (.ref m2), x4, some (.str [c]), some (sD1 r.1), some (.str r.2), x8] := by
  refine (reach_one' (k := k) hR hG hn hlen ri rs hr hc).mono ?_
  rintro ⟨fl, ρ, S'⟩ ⟨q1, rows', x8, q2, q3, ⟨t, q4, _⟩, q5, q6⟩
  exact ⟨q1, rows', x8, q2, q3, ⟨t, q4⟩, q5, q6⟩
theorem e_reached {k : Nat} {S : Store} {st : Stk} {ss : List Char} (b : Bool) {Rs : List Rule} (hst : st.map (·.1) = ss) (hR : ∀ R ∈ Rs, GW R) (hG : ∀ R ∈ rbs b Rs, GR ss R) (hn : Rs.length ≤ 4) (h600 : Few ss (rbs b Rs)) :
    Ok (callF pg (k + 7) "reached" [stockD st, ordD b Rs] S) fun p => ∃ m1 rows, p.1 = .ref m1 ∧ p.2[m1]? = some (.lst (rows.map rowSD)) ∧ Gr S p.2 ∧ RI ss (rbs b Rs) rows.length rows := by
  have hf := fn_c_reached
  rw [c_reached_pt] at hf
  refine call_ok (ρ := [some (stockD st), some (ordD b Rs), none, none, none, none, none, none, none]) hf rfl rfl (ss_cons ?_)
  (wp_walk using w_stp, e_first_standing (k := k + 3))
  refine nx (ss_cons ?_)
  have i0 : (S ++ [O.lst [.tup [.tup (((rbs b Rs).map initR).map stdD), .str []]]])[S.length]? = some (.lst ([((rbs b Rs).map initR, [])].map rowSD)) := by simp [rowSD, sD1]
  have hk : keyN (.tup (((rbs b Rs).map initR).map stdD)) = some (ksd ((rbs b Rs).map initR)) := key_std _
  have a0 : atI ([((rbs b Rs).map initR, ([] : List Char))].map rowSD) 0 = some (.tup [.tup (((rbs b Rs).map initR).map stdD), .str []]) := atI_0
  generalize hS1 : S ++ [O.lst [.tup [.tup (((rbs b Rs).map initR).map stdD), .str []]]] = S1 at i0 ⊢
  have g1 : Gr S S1 := by rw [← hS1]; exact Gr.push
  have hl1 : S1.length = S.length + 1 := by rw [← hS1]; simp
  (wp_walk using w_stp, ix_r i0, a0, atI_0, hk)
  refine nx (ss_cons ?_)
  (wp_walk using w_stp)
  refine nx (ss_cons ?_)
  (wp_walk using w_stp)
  have rs0 : RS S (S1 ++ [O.dcn [.tup (((rbs b Rs).map initR).map stdD)] [.bl true]]) S.length S1.length [((rbs b Rs).map initR, [])] := by
    refine ⟨g1.trans Gr.push, Nat.le_refl _, by omega, ?_, [.tup (((rbs b Rs).map initR).map stdD)], [.bl true], by simp, by simp, fun x => ?_⟩
    · rw [List.getElem?_append_left (by omega)]
      exact i0
    · unfold inN
      rw [List.any_cons, hk]
      simp only [List.any_nil, Bool.or_false, List.map_cons, List.map_nil, List.mem_singleton, Option.some.injEq]
      rw [decide_eq_decide]
      exact ⟨fun h => (ksd_inj h).symm, fun h => by rw [h]⟩
  generalize S1 ++ [O.dcn [.tup (((rbs b Rs).map initR).map stdD)] [.bl true]] = S2 at rs0 ⊢
  refine whl_meas (fun m ρ S' => ∃ (at' : Nat) (rows : List Row) (x5 x6 x7 x8 : Option D), m + at' = 700 ∧ RI ss (rbs b Rs) at' rows ∧ RS S S' S.length S1.length rows ∧ ρ = [some (stockD st), some (ordD b Rs), some (.ref S.length), some (.ref S1.length), some (.int (at' : Int)), x5, x6, x7, x8]) ?_ 100000 700 (by decide) ⟨0, _, _, _, _, _, rfl, RI.init, rs0, rfl⟩
  rintro m _ S' ⟨at', rows, x5, x6, x7, x8, hm, ri, rs, rfl⟩
  have hlen : rows.length ≤ 600 := by
    exact h600 _ _ ri
  have hal := ri.al
  (wp_walk using w_stp, len_r rs.f, List.length_map)
  by_cases hlt : at' < rows.length
  · have d1 : decide ((at' : Int) < (rows.length : Int)) = true := decide_eq_true (by omega)
    refine .inr ⟨by rw [d1], ?_⟩
    obtain ⟨r, hr⟩ : ∃ r, rows[at']? = some r := ⟨_, List.getElem?_eq_getElem hlt⟩
    have hrm := List.mem_of_getElem? hr
    have ea : atI (rows.map rowSD) (at' : Int) = some (.tup [sD1 r.1, .str r.2]) := by
      rw [atI_n, List.getElem?_map, hr]
      rfl
    unfold rW
    refine ss_cons ?_
    (wp_walk using w_stp, ix_r rs.f, ea, asg_pair)
    refine nx (ss_cons ?_)
    (wp_walk using w_stp)
    refine nx (ss_cons (fo_ok ?_))
    (wp_walk using w_stp, e_sounds_of', sds_chars hst)
    refine fo_ it_t ((forL_inv (fun pre ρ S'' => ∃ (rows' : List Row) (x5 x8 : Option D), RI ss (rbs b Rs) at' rows' ∧ RS S S'' S.length S1.length rows' ∧ (∃ t, rows' = rows ++ t) ∧ (∀ c : Char, D.str [c] ∈ pre → (stepO (rbs b Rs) r.1 [c]).1 ∈ rows'.map (·.1)) ∧ ρ = [some (stockD st), some (ordD b Rs), some (.ref S.length), some (.ref S1.length), some (.int ((at' : Int) + 1)), x5, some (sD1 r.1), some (.str r.2), x8]) ⟨rows, _, _, ri, rs, ⟨[], by simp⟩, fun _ h => (nomatch h), rfl⟩ ?_).mono ?_)
    · rintro pre d post _ S'' ee ⟨rows', x5', x8', ri', rs', ⟨t, ht⟩, hcl, rfl⟩
      have hd : d ∈ ss.map fun c => D.str [c] := by rw [ee]; simp
      obtain ⟨c, hc, rfl⟩ := List.mem_map.mp hd
      have hrm' : r ∈ rows' := by rw [ht]; exact List.mem_append_left _ hrm
      refine (reach_one (k := k) hR hG hn (by have := h600 _ _ ri'; omega) ri' rs' hrm' hc).mono ?_
      rintro ⟨_, _, S3⟩ ⟨rfl, rows2, x8, ri2, rs2, ⟨t2, ht2⟩, hin, rfl⟩
      refine ⟨.inl rfl, rows2, _, _, ri2, rs2, ⟨t ++ t2, by rw [ht2, ht, List.append_assoc]⟩, fun q hq => ?_, rfl⟩
      rcases List.mem_append.mp hq with hq | hq
      · rw [ht2, List.map_append]
        exact List.mem_append_left _ (hcl q hq)
      · simp only [List.mem_singleton, D.str.injEq, List.cons.injEq, and_true] at hq
        rw [hq]
        exact hin
    · rintro ⟨_, _, S3⟩ ⟨rfl, rows', x5', x8', ri', rs', ⟨t, ht⟩, hcl, rfl⟩
      have hr' : rows'[at']? = some r := by rw [ht, List.getElem?_append_left hlt]; exact hr
      have ri2 := ri'.next hr' fun c hc => hcl c (List.mem_map.mpr ⟨c, hc, rfl⟩)
      have hlen' : rows'.length ≤ 600 := by
        exact h600 _ _ ri'
      refine nx (ss_cons (ite_ok ?_))
      have d2 : decide ((600 : Int) < (rows'.length : Int)) = false := decide_eq_false (by omega)
      have rs' : RS S S3 S.length S1.length rows' := rs'
      (wp_walk using w_stp, len_r rs'.f, List.length_map, gl_MOSTS, d2)
      exact i_f (ss_nil (nx (ss_nil ⟨.inl rfl, m - 1, by omega, at' + 1, rows', _, _, _, _, by omega, ri2, rs', rfl⟩)))
  · have d1 : decide ((at' : Int) < (rows.length : Int)) = false := decide_eq_false (by omega)
    refine .inl ⟨by rw [d1], nx (ss_cons ?_)⟩
    (wp_walk using w_stp)
    have : at' = rows.length := by omega
    subst this
    exact nrt (rt ⟨_, rows, rfl, rs.f, rs.gr, ri⟩)
end Z

set_option Elab.async false
set_option linter.all false
set_option maxRecDepth 100000
set_option maxHeartbeats 1000000
namespace Z
open PySem L2 PySem.Spec PyProof.Rows
/-! X1: where rules act -/
theorem reads_flag (R : Rule) : ∀ (a b : List Char) (s : St1), (readsP R s (a ++ b)).2.2 = ((readsP R s a).2.2 || (readsP R (readsP R s a).1 b).2.2)
  | [], b, s => by simp [readsP]
  | c :: a, b, s => by
    rw [List.cons_append]
    simp only [readsP, reads_flag R a b, Bool.or_assoc]
theorem flag_ch {R : Rule} (hp : isPut R = false) (hO : Ones R.ch) (hne : ∀ p ∈ R.ch, p.2 ≠ p.1) : ∀ (cs : List Char) (n : Bool) (h : Char), (readsP R (n, [h]) (cs ++ ['#'])).2.1.length ≤ cs.length + 1 ∧ ((readsP R (n, [h]) (cs ++ ['#'])).2.2 = false → (readsP R (n, [h]) (cs ++ ['#'])).2.1 = h :: cs) ∧ ((readsP R (n, [h]) (cs ++ ['#'])).2.2 = true → (readsP R (n, [h]) (cs ++ ['#'])).2.1 ≠ h :: cs) := by
  have one : ∀ (n : Bool) (h c : Char), (chPut R n h c).length ≤ 1 ∧ ((decide ([h] ∈ R.ch.map (·.1)) && n && fitB R.r c) = false → chPut R n h c = [h]) ∧ ((decide ([h] ∈ R.ch.map (·.1)) && n && fitB R.r c) = true → chPut R n h c ≠ [h]) := fun n h c => by
    unfold chPut
    cases hq : (decide ([h] ∈ R.ch.map (·.1)) && n && fitB R.r c) with
    | false => exact ⟨by simp, fun _ => by simp, (fun z => by cases z)⟩
    | true =>
      simp only [Bool.and_eq_true, decide_eq_true_eq] at hq
      refine ⟨by simpa using hO _ hq.1.1, (fun z => by cases z), fun _ => ?_⟩
      simp only [if_true]
      have := (findK_look hq.1.1).2
      exact hne _ this
  intro cs
  induction cs with
  | nil =>
    intro n h
    obtain ⟨o1, o2, o3⟩ := one n h '#'
    simp only [List.nil_append, readsP, stepR, hp, Bool.false_eq_true, if_false, chStep, List.append_nil, Bool.or_false, List.length_nil]
    exact ⟨by omega, o2, o3⟩
  | cons c cs ih =>
    intro n h
    obtain ⟨o1, o2, o3⟩ := one n h c
    obtain ⟨i1, i2, i3⟩ := ih (chNear R n h (chPut R n h c)) c
    rw [List.cons_append]
    simp only [readsP, stepR, hp, Bool.false_eq_true, if_false, chStep, List.length_append, List.length_cons] at i1 i2 i3 ⊢
    generalize (readsP R (chNear R n h (chPut R n h c), [c]) (cs ++ ['#'])).2.1 = out at i1 i2 i3 ⊢
    generalize (readsP R (chNear R n h (chPut R n h c), [c]) (cs ++ ['#'])).2.2 = fl at i2 i3 ⊢
    generalize chPut R n h c = put at o1 o2 o3 ⊢
    generalize (decide ([h] ∈ R.ch.map (·.1)) && n && fitB R.r c) = f at o2 o3 ⊢
    refine ⟨by omega, fun z => ?_, fun z e => ?_⟩
    · rw [Bool.or_eq_false_iff] at z
      rw [o2 z.1, i2 z.2]
      rfl
    · cases hf : f with
      | false =>
        rw [hf, Bool.false_or] at z
        rw [o2 hf] at e
        exact i3 z (List.cons.inj e).2
      | true =>
        have hpn := o3 hf
        match put, o1 with
        | [], _ =>
          rw [List.nil_append] at e
          have := congrArg List.length e
          rw [List.length_cons, List.length_cons] at this
          omega
        | [x], _ =>
          rw [List.cons_append, List.nil_append] at e
          exact hpn (by rw [(List.cons.inj e).1])
theorem flag_put {R : Rule} (hp : isPut R = true) (h1 : (putTx R).length = 1) : ∀ (cs : List Char) (s : St1), (s.2.length + cs.length ≤ (readsP R s (cs ++ ['#'])).2.1.length) ∧ ((readsP R s (cs ++ ['#'])).2.2 = false → (readsP R s (cs ++ ['#'])).2.1 = s.2 ++ cs) ∧ ((readsP R s (cs ++ ['#'])).2.2 = true → s.2.length + cs.length < (readsP R s (cs ++ ['#'])).2.1.length) := by
  intro cs
  induction cs with
  | nil =>
    intro s
    simp only [List.nil_append, readsP, stepR, hp, if_true, putStep, List.append_nil, Bool.or_false, List.length_nil]
    cases hf : (s.1 && fitB R.r '#') with
    | false => exact ⟨by simp, fun _ => by simp, (fun z => by cases z)⟩
    | true => exact ⟨by simp, (fun z => by cases z), fun _ => by simp [h1]⟩
  | cons c cs ih =>
    intro s
    obtain ⟨i1, i2, i3⟩ := ih (fitB R.l c, [c])
    rw [List.cons_append]
    simp only [readsP, stepR, hp, if_true, putStep, List.length_append, List.length_cons, List.length_nil] at i1 i2 i3 ⊢
    generalize (readsP R (fitB R.l c, [c]) (cs ++ ['#'])).2.1 = out at i1 i2 i3 ⊢
    generalize (readsP R (fitB R.l c, [c]) (cs ++ ['#'])).2.2 = fl at i2 i3 ⊢
    cases hf : (s.1 && fitB R.r c) with
    | false =>
      simp only [Bool.false_or, Bool.false_eq_true, if_false]
      refine ⟨by omega, fun z => by rw [i2 z]; rfl, fun z => ?_⟩
      have := i3 z
      omega
    | true =>
      simp only [Bool.true_or, if_true, List.length_append, h1]
      exact ⟨by omega, (fun z => by cases z), fun _ => by omega⟩
theorem flag_whole {R : Rule} (h : Fine R) (hne : ∀ p ∈ R.ch, p.2 ≠ p.1) (w : List Char) : (readsP R (initR R) (w ++ ['#'])).2.2 = !decide (chgL R w = w) := by
  have e := reads_whole h w
  rw [← e]
  unfold initR
  cases hp : isPut R with
  | true =>
    obtain ⟨a1, a2, a3⟩ := flag_put hp (h.put hp) w (fitB R.l '#', [])
    cases hf : (readsP R (fitB R.l '#', []) (w ++ ['#'])).2.2 with
    | false =>
      rw [a2 hf]
      simp
    | true =>
      have := a3 hf
      rw [decide_eq_false fun z => by rw [z] at this; simp at this]
      rfl
  | false =>
    cases w with
    | nil =>
      simp only [List.nil_append, readsP, stepR, hp, Bool.false_eq_true, if_false, chStep, List.append_nil, Bool.or_false]
      simp
    | cons c cs =>
      have q : (readsP R (fitB R.l '#', []) ((c :: cs) ++ ['#'])).2 = (readsP R (fitB R.l '#', [c]) (cs ++ ['#'])).2 := by
        rw [List.cons_append]
        simp only [readsP, stepR, hp, Bool.false_eq_true, if_false, chStep, List.nil_append, Bool.false_or]
      obtain ⟨_, a2, a3⟩ := flag_ch hp (h.one hp) hne cs (fitB R.l '#') c
      rw [q]
      cases hf : (readsP R (fitB R.l '#', [c]) (cs ++ ['#'])).2.2 with
      | false =>
        rw [a2 hf, decide_eq_true rfl]
        rfl
      | true =>
        rw [decide_eq_false (a3 hf)]
        rfl
def flA (Rs : List Rule) (ss : List St1) (u : List Char) (i : Nat) : Bool := (actO Rs ss u).getD i false
def flE (Rs : List Rule) (ss : List St1) (u : List Char) (i : Nat) : Bool := (endA Rs ss u).getD i false
theorem flA_app : ∀ (Rs : List Rule) (ss : List St1) (a b : List Char) (i : Nat), Rs.length = ss.length → flA Rs ss (a ++ b) i = (flA Rs ss a i || flA Rs (stepO Rs ss a).1 b i)
  | [], ss, a, b, i, h => by cases ss <;> first | rfl | cases h
  | R :: Rs, [], a, b, i, h => by cases h
  | R :: Rs, s :: ss, a, b, 0, h => by
    unfold flA
    simp only [actO, stepO, List.getD_cons_zero]
    exact reads_flag R a b s
  | R :: Rs, s :: ss, a, b, i + 1, h => by
    have ih := flA_app Rs ss (readsP R s a).2.1 (readsP R (readsP R s a).1 b).2.1 i (by simpa using h)
    unfold flA at ih ⊢
    simp only [actO, stepO, List.getD_cons_succ]
    rw [(readsP_app R a b s).2]
    exact ih
theorem flE_app : ∀ (Rs : List Rule) (ss : List St1) (a b : List Char) (i : Nat), Rs.length = ss.length → flE Rs ss (a ++ b) i = (flA Rs ss a i || flE Rs (stepO Rs ss a).1 b i)
  | [], ss, a, b, i, h => by cases ss <;> first | rfl | cases h
  | R :: Rs, [], a, b, i, h => by cases h
  | R :: Rs, s :: ss, a, b, 0, h => by
    unfold flA flE
    simp only [actO, endA, stepO, List.getD_cons_zero]
    rw [List.append_assoc]
    exact reads_flag R a (b ++ ['#']) s
  | R :: Rs, s :: ss, a, b, i + 1, h => by
    have ih := flE_app Rs ss (readsP R s a).2.1 (readsP R (readsP R s a).1 (b ++ ['#'])).2.1 i (by simpa using h)
    unfold flA flE at ih ⊢
    simp only [actO, endA, stepO, List.getD_cons_succ]
    rw [List.append_assoc, (readsP_app R a (b ++ ['#']) s).2]
    exact ih
theorem turn_ne {R : Rule} (h : ∀ p ∈ R.ch, p.2 ≠ p.1) : ∀ p ∈ (turnR R).ch, p.2 ≠ p.1 := h
def actsB (b : Bool) (Rs : List Rule) (i : Nat) (w : List Char) : Bool := !decide ((walkS b w Rs).getD i [] = (walkS b w Rs).getD (i + 1) [])
theorem acts_walk (b : Bool) : ∀ (Rs : List Rule) (w : List Char) (i : Nat), (∀ R ∈ Rs, Fine R) → (∀ R ∈ Rs, ∀ p ∈ R.ch, p.2 ≠ p.1) → i < Rs.length → flE (rbs b Rs) ((rbs b Rs).map initR) (dirW b w) i = actsB b Rs i w
  | [], w, i, _, _, hi => absurd hi (Nat.not_lt_zero _)
  | R :: Rs, w, i, hF, hN, hi => by
    have ht : ∃ Q, rbs b (R :: Rs) = Q :: rbs b Rs ∧ Fine Q ∧ (∀ p ∈ Q.ch, p.2 ≠ p.1) ∧ chgL Q (dirW b w) = dirW b (chgS b R w) := by
      cases b with
      | false => exact ⟨R, rfl, hF R (by simp), hN R (by simp), rfl⟩
      | true => exact ⟨turnR R, rfl, (hF R (by simp)).turn, turn_ne (hN R (by simp)), (List.reverse_reverse _).symm⟩
    obtain ⟨Q, eQ, fQ, nQ, cQ⟩ := ht
    rw [eQ, List.map_cons]
    have hinj : ∀ u v : List Char, (dirW b u = dirW b v) ↔ u = v := fun u v => by
      unfold dirW
      cases b with
      | false => exact Iff.rfl
      | true => exact List.reverse_inj
    cases i with
    | zero =>
      unfold flE actsB
      rw [endA, List.getD_cons_zero, flag_whole fQ nQ, cQ]
      congr 1
      rw [decide_eq_decide, hinj]
      have h1 : (walkS b w (R :: Rs)).getD 0 [] = w := rfl
      have h2 : (walkS b w (R :: Rs)).getD (0 + 1) [] = chgS b R w := by
        rw [walkS]
        cases Rs <;> rfl
      rw [h1, h2]
      exact eq_comm
    | succ i =>
      have ih := acts_walk b Rs (chgS b R w) i (fun P hP => hF P (by simp [hP])) (fun P hP => hN P (by simp [hP])) (by simpa using hi)
      unfold flE actsB at ih ⊢
      rw [endA, List.getD_cons_succ, reads_whole fQ, cQ, ih, walkS, List.getD_cons_succ, List.getD_cons_succ]
end Z

set_option Elab.async false
set_option linter.all false
set_option maxRecDepth 100000
set_option maxHeartbeats 1000000
namespace Z
open PySem L2 PySem.Spec PyProof.Rows
/-! X2: words gone through until a rule acts -/
def stW (Rs : List Rule) (w : List Char) : List St1 := (stepO Rs (Rs.map initR) w).1
theorem stW_snoc (Rs : List Rule) (w : List Char) (c : Char) : stW Rs (w ++ [c]) = (stepO Rs (stW Rs w) [c]).1 := by
  unfold stW
  rw [stepO_app _ _ _ _ (by rw [List.length_map])]
theorem stW_len (Rs : List Rule) (w : List Char) : Rs.length = (stW Rs w).length := (stepO_len _ _ _ (by rw [List.length_map])).symm
def stF (Rs : List Rule) (i : Nat) (w : List Char) (c : Char) : Bool := flA Rs (stW Rs w) [c] i
def enF (Rs : List Rule) (i : Nat) (w : List Char) : Bool := flE Rs (stW Rs w) [] i
def whF (Rs : List Rule) (i : Nat) (w : List Char) : Bool := flE Rs (Rs.map initR) w i
theorem wh_end {Rs : List Rule} {i : Nat} {w : List Char} : whF Rs i w = (flA Rs (Rs.map initR) w i || enF Rs i w) := by
  unfold whF enF stW
  have := flE_app Rs (Rs.map initR) w [] i (by rw [List.length_map])
  rw [List.append_nil] at this
  exact this
theorem wh_step {Rs : List Rule} {i : Nat} {w : List Char} {c : Char} (h : stF Rs i w c = true) : whF Rs i (w ++ [c]) = true := by
  rw [wh_end, flA_app _ _ _ _ _ (by rw [List.length_map])]
  show ((flA Rs (Rs.map initR) w i || stF Rs i w c) || _) = true
  rw [h, Bool.or_true, Bool.true_or]
abbrev En2 := List Char × Bool
structure AP (ss : List Char) (Rs : List Rule) (i at' : Nat) (es : List En2) : Prop where
  hd : ∃ t, es = ([], false) :: t
  ov : ∀ e ∈ es, Over ss e.1
  ln : ∀ (j : Nat) e, es[j]? = some e → e.1.length ≤ j
  al : at' ≤ es.length
  ps : ∀ (j : Nat) e, j < at' → es[j]? = some e → e.2 = false ∧ enF Rs i e.1 = false
  ac : ∀ e ∈ es, e.2 = true → whF Rs i e.1 = true
  un : ∀ (j k : Nat) e d, j < k → es[j]? = some e → es[k]? = some d → e.2 = false → d.2 = false → stW Rs e.1 ≠ stW Rs d.1
  cl : ∀ (j : Nat) e, j < at' → es[j]? = some e → ∀ c ∈ ss, (stF Rs i e.1 c = true ∧ (e.1 ++ [c], true) ∈ es) ∨ (stF Rs i e.1 c = false ∧ ∃ d ∈ es, d.2 = false ∧ d.1.length ≤ e.1.length + 1 ∧ stW Rs d.1 = stW Rs (e.1 ++ [c]))
  lim : ∀ (j : Nat) e, at' ≤ j → es[j]? = some e → ∀ d ∈ es, d.1.length ≤ e.1.length + 1
  srt : ∀ (j k : Nat) e d, j ≤ k → es[j]? = some e → es[k]? = some d → e.1.length ≤ d.1.length
theorem AP.init {ss : List Char} {Rs : List Rule} {i : Nat} : AP ss Rs i 0 [([], false)] := by
  have one : ∀ (j : Nat) (e : En2), [(([], false) : En2)][j]? = some e → j = 0 ∧ e = ([], false) := fun j e h => by
    cases j with
    | zero => simp at h; exact ⟨rfl, h.symm⟩
    | succ j => simp at h
  refine ⟨⟨[], rfl⟩, fun e h => ?_, fun j e h => ?_, Nat.zero_le _, fun j e h => absurd h (Nat.not_lt_zero _), fun e h h2 => ?_, fun j k e d hjk h1 h2 => ?_, fun j e h => absurd h (Nat.not_lt_zero _), fun j e _ h d hd => ?_, fun j k e d _ h1 h2 => ?_⟩
  · rw [List.mem_singleton.mp h]
    exact Over.nil
  · rw [(one j e h).2]
    exact Nat.zero_le _
  · rw [List.mem_singleton.mp h] at h2
    cases h2
  · have := (one k d h2).1
    omega
  · rw [List.mem_singleton.mp hd]
    exact Nat.zero_le _
  · rw [(one j e h1).2]
    exact Nat.zero_le _
theorem AP.push {ss : List Char} {Rs : List Rule} {i at' : Nat} {es : List En2} {u : List Char} {c : Char} {a : Bool} (h : AP ss Rs i at' es) (hu : es[at']? = some (u, false)) (hc : c ∈ ss) (ha : a = true → stF Rs i u c = true) (hn : a = false → ∀ e ∈ es, e.2 = false → stW Rs e.1 ≠ stW Rs (u ++ [c])) : AP ss Rs i at' (es ++ [(u ++ [c], a)]) := by
  have hlt := (List.getElem?_eq_some_iff.mp hu).1
  have cut : ∀ (j : Nat) e, (es ++ [(u ++ [c], a)])[j]? = some e → (j < es.length ∧ es[j]? = some e) ∨ (j = es.length ∧ e = (u ++ [c], a)) := fun j e hj => by
    by_cases q : j < es.length
    · rw [List.getElem?_append_left q] at hj
      exact .inl ⟨q, hj⟩
    · have hj2 := (List.getElem?_eq_some_iff.mp hj).1
      rw [List.length_append, List.length_singleton] at hj2
      have : j = es.length := by omega
      subst this
      rw [List.getElem?_append_right (Nat.le_refl _), Nat.sub_self, List.getElem?_cons_zero] at hj
      exact .inr ⟨rfl, (Option.some.inj hj).symm⟩
  have hlen : (u ++ [c]).length = u.length + 1 := by rw [List.length_append]; rfl
  refine ⟨?_, fun e he => ?_, fun j e hj => ?_, by rw [List.length_append]; omega, fun j e hj he => ?_, fun e he h2 => ?_, fun j k e d hjk h1 h2 q1 q2 => ?_, fun j e hj he d hd => ?_, fun j e hj he d hd => ?_, fun j k e d hjk h1 h2 => ?_⟩
  · obtain ⟨t, e⟩ := h.hd
    exact ⟨t ++ [(u ++ [c], a)], by rw [e]; rfl⟩
  · rcases List.mem_append.mp he with he | he
    · exact h.ov e he
    · rw [List.mem_singleton.mp he]
      exact (h.ov _ (List.mem_of_getElem? hu)).app (Over.one hc)
  · rcases cut j e hj with ⟨_, q⟩ | ⟨q1, q2⟩
    · exact h.ln j e q
    · rw [q1, q2, hlen]
      have := h.ln at' _ hu
      have e2 : u.length ≤ at' := this
      omega
  · rcases cut j e he with ⟨_, q⟩ | ⟨q1, q2⟩
    · exact h.ps j e hj q
    · omega
  · rcases List.mem_append.mp he with he | he
    · exact h.ac e he h2
    · rw [List.mem_singleton.mp he] at h2 ⊢
      exact wh_step (ha h2)
  · rcases cut k d h2 with ⟨q0, q⟩ | ⟨r1, r2⟩
    · rcases cut j e h1 with ⟨_, r⟩ | ⟨r1, _⟩
      · exact h.un j k e d hjk r q q1 q2
      · omega
    · rcases cut j e h1 with ⟨_, r⟩ | ⟨r3, _⟩
      · rw [r2] at q2 ⊢
        exact hn q2 e (List.mem_of_getElem? r) q1
      · omega
  · rcases cut j e he with ⟨_, q⟩ | ⟨q1, q2⟩
    · rcases h.cl j e hj q d hd with ⟨z1, z2⟩ | ⟨z1, v, z2, z3⟩
      · exact .inl ⟨z1, List.mem_append_left _ z2⟩
      · exact .inr ⟨z1, v, List.mem_append_left _ z2, z3⟩
    · omega
  · have hwu : u.length ≤ e.1.length := by
      rcases cut j e he with ⟨_, r⟩ | ⟨_, r2⟩
      · exact h.srt at' j (u, false) e hj hu r
      · rw [r2, hlen]
        omega
    have hv2 : d.1.length ≤ u.length + 1 := by
      rcases List.mem_append.mp hd with hd | hd
      · exact h.lim at' (u, false) (Nat.le_refl _) hu d hd
      · rw [List.mem_singleton.mp hd, hlen]
        exact Nat.le_refl _
    omega
  · rcases cut k d h2 with ⟨q0, q⟩ | ⟨q1, q2⟩
    · rcases cut j e h1 with ⟨_, r⟩ | ⟨r1, _⟩
      · exact h.srt j k e d hjk r q
      · omega
    · rcases cut j e h1 with ⟨_, r⟩ | ⟨_, r2⟩
      · rw [q2, hlen]
        exact h.lim at' (u, false) (Nat.le_refl _) hu e (List.mem_of_getElem? r)
      · rw [q2, r2]
        exact Nat.le_refl _
theorem AP.next {ss : List Char} {Rs : List Rule} {i at' : Nat} {es : List En2} {u : List Char} (h : AP ss Rs i at' es) (hu : es[at']? = some (u, false)) (he : enF Rs i u = false) (hc : ∀ c ∈ ss, (stF Rs i u c = true ∧ (u ++ [c], true) ∈ es) ∨ (stF Rs i u c = false ∧ ∃ d ∈ es, d.2 = false ∧ stW Rs d.1 = stW Rs (u ++ [c]))) : AP ss Rs i (at' + 1) es := by
  refine ⟨h.hd, h.ov, h.ln, (List.getElem?_eq_some_iff.mp hu).1, fun j e hj hje => ?_, h.ac, h.un, fun j e hj hje d hd => ?_, fun j e hj hje d hd => h.lim j e (by omega) hje d hd, h.srt⟩
  · by_cases q : j < at'
    · exact h.ps j e q hje
    · have : j = at' := by omega
      subst this
      rw [hu] at hje
      cases hje
      exact ⟨rfl, he⟩
  · by_cases q : j < at'
    · exact h.cl j e q hje d hd
    · have : j = at' := by omega
      subst this
      rw [hu] at hje
      cases hje
      rcases hc d hd with z | ⟨z1, v, z2, z3, z4⟩
      · exact .inl z
      · exact .inr ⟨z1, v, z2, z3, h.lim _ _ (Nat.le_refl _) hu v z2, z4⟩
theorem AP.key {ss : List Char} {Rs : List Rule} {i at' B : Nat} {es : List En2} (h : AP ss Rs i at' es) (hB : ∀ (j : Nat) e, at' ≤ j → es[j]? = some e → B ≤ e.1.length) : ∀ w, Over ss w → w.length < B → whF Rs i w = false := by
  have key : ∀ (v : List Char), Over ss v → ∀ (j : Nat) e, j < at' → es[j]? = some e → e.1.length + v.length < B → flE Rs (stW Rs e.1) v i = false := by
    intro v
    induction v with
    | nil =>
      intro _ j e hj he _
      exact (h.ps j e hj he).2
    | cons c v ih =>
      intro hv j e hj he hlen
      rw [List.length_cons] at hlen
      have hc : c ∈ ss := hv c (by simp)
      have hv' : Over ss v := fun y hy => hv y (by simp [hy])
      rw [show c :: v = [c] ++ v from rfl, flE_app _ _ _ _ _ (stW_len Rs e.1), ← stW_snoc]
      rcases h.cl j e hj he c hc with ⟨z1, z2⟩ | ⟨z1, d, z2, z3, z4, z5⟩
      · obtain ⟨k, hk, ek⟩ := List.getElem_of_mem z2
        have hk2 : es[k]? = some (e.1 ++ [c], true) := by rw [List.getElem?_eq_getElem hk, ek]
        by_cases hkl : k < at'
        · have := (h.ps k _ hkl hk2).1
          cases this
        · have := hB k _ (by omega) hk2
          simp only [List.length_append, List.length_singleton] at this
          omega
      · have z1 : flA Rs (stW Rs e.1) [c] i = false := z1
        rw [z1, Bool.false_or, ← z5]
        obtain ⟨k, hk, ek⟩ := List.getElem_of_mem z2
        have hk2 : es[k]? = some d := by rw [List.getElem?_eq_getElem hk, ek]
        by_cases hkl : k < at'
        · exact ih hv' k d hkl hk2 (by omega)
        · have := hB k _ (by omega) hk2
          omega
  intro w hw hl
  obtain ⟨t, ht⟩ := h.hd
  have h0 : es[0]? = some ([], false) := by rw [ht, List.getElem?_cons_zero]
  have hp : 0 < at' := by
    refine Nat.pos_of_ne_zero fun z => ?_
    have := hB 0 _ (by omega) h0
    simp at this
    omega
  have := key w hw 0 _ hp h0 (by simpa using hl)
  have e0 : stW Rs [] = Rs.map initR := by
    unfold stW
    rw [stepO_nil _ _ (by rw [List.length_map])]
  rw [e0] at this
  exact this
theorem stW_cand {ss : List Char} {Rs : List Rule} (g : ∀ R ∈ Rs, GR ss R) {w : List Char} (hw : Over ss w) : stW Rs w ∈ candS ss Rs := (step_cand Rs _ w g (init_cand ss Rs) hw).1
end Z

set_option Elab.async false
set_option linter.all false
set_option maxRecDepth 100000
set_option maxHeartbeats 1000000
namespace Z
open PySem L2 PySem.Spec PyProof.Rows
local macro_rules
  | `(tactic| wp_walk using w_stp) => `(tactic| simp only [w_okb, w_bb, w_var, w_con, w_glo, w_tup, w_lst, w_dct, w_bin, w_not, w_and, w_or, w_cmp, w_chain, w_ix, w_call, w_fld, w_new, w_meth, w_noneD, w_setf, w_blt, w_mth, w_comp, w_sl, w_rev, w_neg, w_nil, w_cons, w_and1, w_and2, w_or1, w_or2, w_asg, w_exp, w_ret, w_anm, w_asub, w_orv, w_dcn0, w_dcn1, w_whl, w_callv, w_wipe1, w_wipe2, Ok.ok_iff, subTy, List.getElem?_cons_zero, List.getElem?_cons_succ, List.set_cons_succ, List.set_cons_zero, if_true, Bool.false_eq_true, if_false, Option.map_some, Bool.not_true, Bool.not_false, Bool.true_or, Bool.or_true, Bool.false_or, Bool.or_false, Bool.true_and, Bool.and_true, Bool.false_and, Bool.and_false, eq_self, decide_true, decide_false, beq_self_eq_true, of_some, litD_f, litD_t, bin_add, bin_sub, bin_band, cmp_lti, cmp_lts, cmp_le, cmp_gt, cmp_ge, cmp_none, cmp_nnone, cmp_true, cmp_ntrue, ofB_some, cmp_in, cmp_nin, nonD_non, nonD_s, nonD_t, nonD_i, nonD_l, nonD_r, nonD_b, nonD_x, deref_s, deref_t, deref_l, deref_i, deref_b, deref_n, ok_s, ok_i, ok_b, ok_n, mem_s, flat_s, flat_i, flat_b, flat_n, ix_s, ix_t, ix_l, items_t, items_l, len_s, len_t2, len_t4, len_l, tuple_s, tuple_t, tuple_l, list_s, list_t, list_l, blt_max, blt_min, blt_all, blt_any, ty_s, ty_t, ty_l, ty_i, ty_b, ty_n, rec_join, rec_idx, rec_idxT, tupOnly_t, blt_int1, rec_idxLl, it_s, it_en, it_t, it_l, compI_sq, forI_sq, bind1, rev_s, rev_t, rev_l, blt_inrg, blt_ninrg, rec_upr, bind2, sl_t, sl_s, sl_l, part_i, eq_ss, eq_ii, eq_bb, eq_tn, eq_tc, eq_tc0, eq_t0c, in_nil, in_cons, in_strs, in_sgn, flat_map, all_true, cmp_eq_ii, cmp_eq_ss, cmp_eq_bb, cmp_ne_ii, cmp_ne_ss, bin_shrn, mem_strs, mem_strl, atI_0, atI_1, atI_2, atI_3])
  | `(tactic| wp_walk using w_stp, $[$ts:term],*) => `(tactic| simp only [w_okb, w_bb, w_var, w_con, w_glo, w_tup, w_lst, w_dct, w_bin, w_not, w_and, w_or, w_cmp, w_chain, w_ix, w_call, w_fld, w_new, w_meth, w_noneD, w_setf, w_blt, w_mth, w_comp, w_sl, w_rev, w_neg, w_nil, w_cons, w_and1, w_and2, w_or1, w_or2, w_asg, w_exp, w_ret, w_anm, w_asub, w_orv, w_dcn0, w_dcn1, w_whl, w_callv, w_wipe1, w_wipe2, Ok.ok_iff, subTy, List.getElem?_cons_zero, List.getElem?_cons_succ, List.set_cons_succ, List.set_cons_zero, if_true, Bool.false_eq_true, if_false, Option.map_some, Bool.not_true, Bool.not_false, Bool.true_or, Bool.or_true, Bool.false_or, Bool.or_false, Bool.true_and, Bool.and_true, Bool.false_and, Bool.and_false, eq_self, decide_true, decide_false, beq_self_eq_true, of_some, litD_f, litD_t, bin_add, bin_sub, bin_band, cmp_lti, cmp_lts, cmp_le, cmp_gt, cmp_ge, cmp_none, cmp_nnone, cmp_true, cmp_ntrue, ofB_some, cmp_in, cmp_nin, nonD_non, nonD_s, nonD_t, nonD_i, nonD_l, nonD_r, nonD_b, nonD_x, deref_s, deref_t, deref_l, deref_i, deref_b, deref_n, ok_s, ok_i, ok_b, ok_n, mem_s, flat_s, flat_i, flat_b, flat_n, ix_s, ix_t, ix_l, items_t, items_l, len_s, len_t2, len_t4, len_l, tuple_s, tuple_t, tuple_l, list_s, list_t, list_l, blt_max, blt_min, blt_all, blt_any, ty_s, ty_t, ty_l, ty_i, ty_b, ty_n, rec_join, rec_idx, rec_idxT, tupOnly_t, blt_int1, rec_idxLl, it_s, it_en, it_t, it_l, compI_sq, forI_sq, bind1, rev_s, rev_t, rev_l, blt_inrg, blt_ninrg, rec_upr, bind2, sl_t, sl_s, sl_l, part_i, eq_ss, eq_ii, eq_bb, eq_tn, eq_tc, eq_tc0, eq_t0c, in_nil, in_cons, in_strs, in_sgn, flat_map, all_true, cmp_eq_ii, cmp_eq_ss, cmp_eq_bb, cmp_ne_ii, cmp_ne_ss, bin_shrn, mem_strs, mem_strl, atI_0, atI_1, atI_2, atI_3, $[$ts:term],*])
/-! X3: acts, walked -/
theorem whl_all {c : Env → Store → R (D × Store)} {f : Env → Store → R (Fl × Env × Store)} {Q : Fl × Env × Store → Prop} (I : Nat → Env → Store → Prop)
    (st : ∀ m ρ S, I m ρ S → Ok (c ρ S) fun p => (p.1 = .bl false ∧ Q (.nx, ρ, p.2)) ∨ (p.1 = .bl true ∧ Ok (f ρ p.2) fun q => ((q.1 = .nx ∨ q.1 = .ct) ∧ ∃ m', m' < m ∧ I m' q.2.1 q.2.2) ∨ ∃ v, q.1 = .rt v ∧ Q (.rt v, q.2))) :
    ∀ (n m : Nat) {ρ : Env} {S : Store}, m < n → I m ρ S → Ok (whlN c f n ρ S) Q
  | 0, m, _, _, h, _ => by omega
  | n + 1, m, ρ, S, h, hI => by
    rw [whlN]
    refine Ok.bind (st m ρ S hI) ?_
    rintro ⟨_, S1⟩ (⟨rfl, h1⟩ | ⟨rfl, h1⟩)
    · rw [Ok.ok_iff]
      exact h1
    · refine Ok.bind h1 ?_
      rintro ⟨fl, ρ', S2⟩ (⟨rfl | rfl, m', h2, h3⟩ | ⟨v, rfl, hq⟩)
      · exact whl_all I st n m' (by omega) h3
      · exact whl_all I st n m' (by omega) h3
      · rw [Ok.ok_iff]
        exact hq
theorem actO_len : ∀ (Rs : List Rule) (ss : List St1) (u : List Char), Rs.length = ss.length → (actO Rs ss u).length = Rs.length
  | [], ss, u, h => by cases ss <;> first | rfl | cases h
  | R :: Rs, [], u, h => by cases h
  | R :: Rs, s :: ss, u, h => by
    rw [actO, List.length_cons, List.length_cons, actO_len Rs ss _ (by simpa using h)]
theorem endA_len : ∀ (Rs : List Rule) (ss : List St1) (u : List Char), Rs.length = ss.length → (endA Rs ss u).length = Rs.length
  | [], ss, u, h => by cases ss <;> first | rfl | cases h
  | R :: Rs, [], u, h => by cases h
  | R :: Rs, s :: ss, u, h => by
    rw [endA, List.length_cons, List.length_cons, endA_len Rs ss _ (by simpa using h)]
theorem ix_bls {xs : List Bool} {i : Nat} {S : Store} (h : i < xs.length) : ixD (.tup (xs.map .bl)) (.int (i : Int)) S = .ok (.bl (xs.getD i false), S) := by
  rw [ix_t, atI_n, List.getElem?_map, List.getElem?_eq_getElem h, List.getD_eq_getElem?_getD, List.getElem?_eq_getElem h]
  rfl
def pushF (RR : List Rule) (i : Nat) (u : List Char) (es : List En2) (c : Char) : List En2 := if stF RR i u c = true then es ++ [(u ++ [c], true)] else if ∃ e ∈ es, e.2 = false ∧ stW RR e.1 = stW RR (u ++ [c]) then es else es ++ [(u ++ [c], false)]
def esN (ss : List Char) (RR : List Rule) (i : Nat) : Nat → List En2
  | 0 => [([], false)]
  | n + 1 => match (esN ss RR i n)[n]? with
    | some e => ss.foldl (pushF RR i e.1) (esN ss RR i n)
    | none => esN ss RR i n
def stpA (ss : List Char) (RR : List Rule) (i n : Nat) : Bool := match (esN ss RR i n)[n]? with
  | some e => e.2 || enF RR i e.1
  | none => true
def ActsT (ss : List Char) (b : Bool) (Rs : List Rule) (i : Nat) (d : D) : Prop := ∃ n, (∀ j < n, stpA ss (rbs b Rs) i j = false) ∧ stpA ss (rbs b Rs) i n = true ∧ d = (match (esN ss (rbs b Rs) i n)[n]? with
  | some e => .str (dirW b e.1)
  | none => .non)
theorem ActsT.one {ss : List Char} {b : Bool} {Rs : List Rule} {i : Nat} {d e : D} (h : ActsT ss b Rs i d) (g : ActsT ss b Rs i e) : d = e := by
  obtain ⟨n, h1, h2, rfl⟩ := h
  obtain ⟨m, g1, g2, rfl⟩ := g
  have : n = m := by
    rcases Nat.lt_trichotomy n m with z | z | z
    · rw [g1 n z] at h2; cases h2
    · exact z
    · rw [h1 m z] at g2; cases g2
  rw [this]
def entD (RR : List Rule) (e : En2) : D := .tup [.tup ((stW RR e.1).map stdD), .str e.1, .bl e.2]
structure AS (S0 S : Store) (m3 m4 : Nat) (RR : List Rule) (es : List En2) : Prop where
  gr : Gr S0 S
  l3 : S0.length ≤ m3
  l4 : S0.length ≤ m4
  f : S[m3]? = some (.lst (es.map (entD RR)))
  d : ∃ ks vs, S[m4]? = some (.dcn ks vs) ∧ ks.length ≤ es.length ∧ ∀ x, inN (ksd x) ks = true ↔ ∃ e ∈ es, e.2 = false ∧ stW RR e.1 = x
theorem AS.more {S0 S S' : Store} {m3 m4 : Nat} {RR : List Rule} {es : List En2} (h : AS S0 S m3 m4 RR es) (g : Gr S S') : AS S0 S' m3 m4 RR es := by
  obtain ⟨ks, vs, e1, e2, e3⟩ := h.d
  exact ⟨h.gr.trans g, h.l3, h.l4, g.get h.f, ks, vs, g.get e1, e2, e3⟩
def acB : List Z.S := [.asg (.tp [.nm 10, .nm 11, .nm 12]) (.call "step_of" [.var 1, .var 7, .var 6]),
      .ite (.or [.ix (.var 12) (.var 2), .cmp .notIn (.var 10) (.var 4)]) [.exp (.mth .append (.var 3) [.tup [.var 10, .bin .add (.var 8) (.var 6), .ix (.var 12) (.var 2)]]),
      .ite (.not (.ix (.var 12) (.var 2))) [.asg (.sub (.var 4) (.var 10)) (.con (.bl true))] []] []]
def acW : List Z.S := [.asg (.tp [.nm 7, .nm 8, .nm 9]) (.ix (.var 3) (.var 5)),
      .asg (.nm 5) (.bin .add (.var 5) (.con (.int 1))),
      .ite (.or [.var 9, .ix (.ix (.call "end_step" [.var 1, .var 7]) (.con (.int 1))) (.var 2)]) [.ret (.call "as_written" [.var 1, .var 8])] [],
      .fo [6] true .sq [.call "sounds_of" [.var 0]] acB]
def ActsD (ss : List Char) (b : Bool) (Rs : List Rule) (i : Nat) (d : D) : Prop := (d = .non ∧ ∀ w, Over ss w → whF (rbs b Rs) i w = false) ∨ ∃ x, d = .str (dirW b x) ∧ Over ss x ∧ x.length ≤ 600 ∧ whF (rbs b Rs) i x = true ∧ ∀ w, Over ss w → w.length < x.length → whF (rbs b Rs) i w = false
end Z

set_option Elab.async false
set_option linter.all false
set_option maxRecDepth 100000
set_option maxHeartbeats 1000000
namespace Z
open PySem L2 PySem.Spec PyProof.Rows
/-! B1: words found breadth first, one for each state -/
structure BF {K : Type} (ss : List Char) (κ : List Char → K) (at' : Nat) (es : List (List Char)) : Prop where
  hd : ∃ t, es = [] :: t
  ov : ∀ e ∈ es, Over ss e
  ln : ∀ (j : Nat) e, es[j]? = some e → e.length ≤ j
  al : at' ≤ es.length
  un : ∀ (j k : Nat) e d, j < k → es[j]? = some e → es[k]? = some d → κ e ≠ κ d
  cl : ∀ (j : Nat) e, j < at' → es[j]? = some e → ∀ c ∈ ss, ∃ d ∈ es, d.length ≤ e.length + 1 ∧ κ d = κ (e ++ [c])
  lim : ∀ (j : Nat) e, at' ≤ j → es[j]? = some e → ∀ d ∈ es, d.length ≤ e.length + 1
  srt : ∀ (j k : Nat) e d, j ≤ k → es[j]? = some e → es[k]? = some d → e.length ≤ d.length
section
variable {K : Type} {ss : List Char} {κ : List Char → K} {at' : Nat} {es : List (List Char)} {u : List Char} {c : Char}
theorem BF.init : BF ss κ 0 [[]] := by
  have one : ∀ (j : Nat) (e : List Char), [([] : List Char)][j]? = some e → j = 0 ∧ e = [] := fun j e h => by
    cases j with
    | zero => simp at h; exact ⟨rfl, h⟩
    | succ j => simp at h
  refine ⟨⟨[], rfl⟩, fun e h => ?_, fun j e h => ?_, Nat.zero_le _, fun j k e d hjk h1 h2 => ?_, fun j e h => absurd h (Nat.not_lt_zero _), fun j e _ h d hd => ?_, fun j k e d _ h1 h2 => ?_⟩
  · rw [List.mem_singleton.mp h]
    exact Over.nil
  · rw [(one j e h).2]
    exact Nat.zero_le _
  · have := (one k d h2).1
    omega
  · rw [List.mem_singleton.mp hd]
    exact Nat.zero_le _
  · rw [(one j e h1).2]
    exact Nat.zero_le _
theorem BF.push (h : BF ss κ at' es) (hu : es[at']? = some u) (hc : c ∈ ss) (hn : ∀ e ∈ es, κ e ≠ κ (u ++ [c])) : BF ss κ at' (es ++ [u ++ [c]]) := by
  have hlt := (List.getElem?_eq_some_iff.mp hu).1
  have cut : ∀ (j : Nat) e, (es ++ [u ++ [c]])[j]? = some e → (j < es.length ∧ es[j]? = some e) ∨ (j = es.length ∧ e = u ++ [c]) := fun j e hj => by
    by_cases q : j < es.length
    · rw [List.getElem?_append_left q] at hj
      exact .inl ⟨q, hj⟩
    · have hj2 := (List.getElem?_eq_some_iff.mp hj).1
      rw [List.length_append, List.length_singleton] at hj2
      have : j = es.length := by omega
      subst this
      rw [List.getElem?_append_right (Nat.le_refl _), Nat.sub_self, List.getElem?_cons_zero] at hj
      exact .inr ⟨rfl, (Option.some.inj hj).symm⟩
  have hlen : (u ++ [c]).length = u.length + 1 := by rw [List.length_append]; rfl
  refine ⟨?_, fun e he => ?_, fun j e hj => ?_, by rw [List.length_append]; omega, fun j k e d hjk h1 h2 => ?_, fun j e hj he d hd => ?_, fun j e hj he d hd => ?_, fun j k e d hjk h1 h2 => ?_⟩
  · obtain ⟨t, e⟩ := h.hd
    exact ⟨t ++ [u ++ [c]], by rw [e]; rfl⟩
  · rcases List.mem_append.mp he with he | he
    · exact h.ov e he
    · rw [List.mem_singleton.mp he]
      exact (h.ov _ (List.mem_of_getElem? hu)).app (Over.one hc)
  · rcases cut j e hj with ⟨_, q⟩ | ⟨q1, q2⟩
    · exact h.ln j e q
    · rw [q1, q2, hlen]
      have := h.ln at' _ hu
      omega
  · rcases cut k d h2 with ⟨q0, q⟩ | ⟨r1, r2⟩
    · rcases cut j e h1 with ⟨_, r⟩ | ⟨r1, _⟩
      · exact h.un j k e d hjk r q
      · omega
    · rcases cut j e h1 with ⟨_, r⟩ | ⟨r3, _⟩
      · rw [r2]
        exact hn e (List.mem_of_getElem? r)
      · omega
  · rcases cut j e he with ⟨_, q⟩ | ⟨q1, q2⟩
    · obtain ⟨v, z1, z2⟩ := h.cl j e hj q d hd
      exact ⟨v, List.mem_append_left _ z1, z2⟩
    · omega
  · have hwu : u.length ≤ e.length := by
      rcases cut j e he with ⟨_, r⟩ | ⟨_, r2⟩
      · exact h.srt at' j u e hj hu r
      · rw [r2, hlen]
        omega
    have hv2 : d.length ≤ u.length + 1 := by
      rcases List.mem_append.mp hd with hd | hd
      · exact h.lim at' u (Nat.le_refl _) hu d hd
      · rw [List.mem_singleton.mp hd, hlen]
        exact Nat.le_refl _
    omega
  · rcases cut k d h2 with ⟨q0, q⟩ | ⟨q1, q2⟩
    · rcases cut j e h1 with ⟨_, r⟩ | ⟨r1, _⟩
      · exact h.srt j k e d hjk r q
      · omega
    · rcases cut j e h1 with ⟨_, r⟩ | ⟨_, r2⟩
      · rw [q2, hlen]
        exact h.lim at' u (Nat.le_refl _) hu e (List.mem_of_getElem? r)
      · rw [q2, r2]
        exact Nat.le_refl _
theorem BF.next (h : BF ss κ at' es) (hu : es[at']? = some u) (hc : ∀ c ∈ ss, ∃ d ∈ es, κ d = κ (u ++ [c])) : BF ss κ (at' + 1) es := by
  refine ⟨h.hd, h.ov, h.ln, (List.getElem?_eq_some_iff.mp hu).1, h.un, fun j e hj hje d hd => ?_, fun j e hj hje d hd => h.lim j e (by omega) hje d hd, h.srt⟩
  by_cases q : j < at'
  · exact h.cl j e q hje d hd
  · have : j = at' := by omega
    subst this
    rw [hu] at hje
    cases hje
    obtain ⟨v, z1, z2⟩ := hc d hd
    exact ⟨v, z1, h.lim _ _ (Nat.le_refl _) hu v z1, z2⟩
theorem BF.near {B : Nat} (hκ : ∀ a b c, κ a = κ b → κ (a ++ [c]) = κ (b ++ [c])) (h : BF ss κ at' es) (hB : ∀ (j : Nat) e, at' ≤ j → es[j]? = some e → B ≤ e.length) :
    ∀ (n : Nat) (w : List Char), w.length = n → Over ss w → w.length < B → ∃ (i : Nat) (e : List Char), i < at' ∧ es[i]? = some e ∧ κ e = κ w ∧ e.length ≤ w.length := by
  have got : ∀ (e : List Char), e ∈ es → e.length < B → ∃ i, i < at' ∧ es[i]? = some e := fun e he hl => by
    obtain ⟨i, hi, ei⟩ := List.getElem_of_mem he
    have hi2 : es[i]? = some e := by rw [List.getElem?_eq_getElem hi, ei]
    refine ⟨i, ?_, hi2⟩
    rcases Nat.lt_or_ge i at' with z | z
    · exact z
    · have := hB i e z hi2
      omega
  intro n
  induction n with
  | zero =>
    intro w hl _ hB'
    rw [List.length_eq_zero_iff.mp hl] at hB' ⊢
    obtain ⟨t, e⟩ := h.hd
    obtain ⟨i, h1, h2⟩ := got [] (by rw [e]; simp) hB'
    exact ⟨i, [], h1, h2, rfl, Nat.le_refl _⟩
  | succ n ih =>
    intro w hl hw hB'
    have hne : w ≠ [] := fun e => by rw [e] at hl; cases hl
    have hd : w.dropLast ++ [w.getLast hne] = w := List.dropLast_concat_getLast hne
    generalize w.dropLast = z at hd
    generalize w.getLast hne = c at hd
    subst hd
    have hz : Over ss z := fun x hx => hw x (by simp [hx])
    have hzl : (z ++ [c]).length = z.length + 1 := by rw [List.length_append]; rfl
    obtain ⟨i, e, h1, h2, h3, h4⟩ := ih z (by omega) hz (by omega)
    obtain ⟨d, d1, d2, d3⟩ := h.cl i e h1 h2 c (hw c (by simp))
    obtain ⟨j, j1, j2⟩ := got d d1 (by omega)
    exact ⟨j, d, j1, j2, d3.trans (hκ _ _ _ h3), by omega⟩
theorem BF.all (hκ : ∀ a b c, κ a = κ b → κ (a ++ [c]) = κ (b ++ [c])) (h : BF ss κ es.length es) {w : List Char} (hw : Over ss w) : ∃ (i : Nat) (e : List Char), es[i]? = some e ∧ κ e = κ w ∧ e.length ≤ w.length := by
  obtain ⟨i, e, _, h2, h3, h4⟩ := h.near (B := w.length + 1) hκ (fun j e hj he => by
    have := (List.getElem?_eq_some_iff.mp he).1
    omega) _ w rfl hw (Nat.lt_succ_self _)
  exact ⟨i, e, h2, h3, h4⟩
theorem BF.nodup (h : BF ss κ at' es) : (es.map κ).Nodup := by
  rw [List.nodup_iff_pairwise_ne, List.pairwise_iff_getElem]
  intro i j hi hj hij
  rw [List.length_map] at hi hj
  rw [List.getElem_map, List.getElem_map]
  exact h.un i j _ _ hij (List.getElem?_eq_getElem hi) (List.getElem?_eq_getElem hj)
theorem BF.bound {m : List K} (h : BF ss κ at' es) (hm : ∀ w, Over ss w → κ w ∈ m) : es.length ≤ m.length := by
  have := nod_le h.nodup (m := m) fun x hx => by
    obtain ⟨e, he, rfl⟩ := List.mem_map.mp hx
    exact hm e (h.ov e he)
  rwa [List.length_map] at this
theorem BF.first {P : List Char → Bool} (hκ : ∀ a b c, κ a = κ b → κ (a ++ [c]) = κ (b ++ [c])) (hP : ∀ a b, κ a = κ b → P a = P b) (h : BF ss κ es.length es) :
    (es.find? P = none ∧ ∀ w, Over ss w → P w = false) ∨ ∃ x, es.find? P = some x ∧ Over ss x ∧ P x = true ∧ ∀ w, Over ss w → w.length < x.length → P w = false := by
  cases hf : es.find? P with
  | none =>
    refine .inl ⟨rfl, fun w hw => ?_⟩
    obtain ⟨i, e, h2, h3, _⟩ := h.all hκ hw
    rw [← hP _ _ h3]
    have := List.find?_eq_none.mp hf e (List.mem_of_getElem? h2)
    simpa using this
  | some x =>
    refine .inr ⟨x, rfl, h.ov x (List.mem_of_find?_eq_some hf), List.find?_some hf, fun w hw hl => ?_⟩
    obtain ⟨i, e, h2, h3, h4⟩ := h.all hκ hw
    rw [← hP _ _ h3]
    obtain ⟨hp, as, bs, he, hn⟩ := List.find?_eq_some_iff_append.mp hf
    have hx : es[as.length]? = some x := by rw [he, List.getElem?_append_right (Nat.le_refl _), Nat.sub_self]; rfl
    rcases Nat.lt_or_ge i as.length with z | z
    · rw [he, List.getElem?_append_left z] at h2
      simpa using hn e (List.mem_of_getElem? h2)
    · have := h.srt _ _ _ _ z hx h2
      omega
theorem BF.no {P : List Char → Bool} (hκ : ∀ a b c, κ a = κ b → κ (a ++ [c]) = κ (b ++ [c])) (hP : ∀ a b, κ a = κ b → P a = P b) (h : BF ss κ es.length es) (hn : ∀ (j : Nat) e, es[j]? = some e → P e = false) : ∀ w, Over ss w → P w = false := fun w hw => by
  obtain ⟨i, e, h2, h3, _⟩ := h.all hκ hw
  rw [← hP _ _ h3]
  exact hn i e h2
end
end Z

set_option Elab.async false
set_option linter.all false
set_option maxRecDepth 100000
set_option maxHeartbeats 1000000
namespace Z
open PySem L2 PySem.Spec PyProof.Rows
/-! B2: the words that a walk breadth first finds, as it goes -/
section
variable {K : Type} {ss : List Char} {κ : List Char → K}
open Classical in
noncomputable def pushB (κ : List Char → K) (u : List Char) (es : List (List Char)) (c : Char) : List (List Char) := if ∃ e ∈ es, κ e = κ (u ++ [c]) then es else es ++ [u ++ [c]]
noncomputable def esB (ss : List Char) (κ : List Char → K) : Nat → List (List Char)
  | 0 => [[]]
  | n + 1 => match (esB ss κ n)[n]? with
    | some u => ss.foldl (pushB κ u) (esB ss κ n)
    | none => esB ss κ n
theorem esB_step {n : Nat} {u : List Char} (h : (esB ss κ n)[n]? = some u) : esB ss κ (n + 1) = ss.foldl (pushB κ u) (esB ss κ n) := by
  rw [esB, h]
theorem esB_stay {n : Nat} (h : (esB ss κ n).length ≤ n) : ∀ m, n ≤ m → esB ss κ m = esB ss κ n := by
  intro m hm
  induction m with
  | zero => rw [Nat.le_zero.mp hm]
  | succ m ih =>
    by_cases q : n ≤ m
    · rw [esB, ih q, List.getElem?_eq_none (by omega)]
    · have : n = m + 1 := by omega
      rw [this]
theorem pushB_old {u : List Char} {es : List (List Char)} {c : Char} (h : ∃ e ∈ es, κ e = κ (u ++ [c])) : pushB κ u es c = es := by
  unfold pushB
  rw [if_pos h]
theorem pushB_new {u : List Char} {es : List (List Char)} {c : Char} (h : ∀ e ∈ es, κ e ≠ κ (u ++ [c])) : pushB κ u es c = es ++ [u ++ [c]] := by
  unfold pushB
  rw [if_neg fun ⟨e, he, q⟩ => h e he q]
end
end Z

set_option Elab.async false
set_option linter.all false
set_option maxRecDepth 100000
set_option maxHeartbeats 1000000
namespace Z
open PySem L2 PySem.Spec PyProof.Rows
local macro_rules
  | `(tactic| wp_walk using w_stp) => `(tactic| simp only [w_okb, w_bb, w_var, w_con, w_glo, w_tup, w_lst, w_dct, w_bin, w_not, w_and, w_or, w_cmp, w_chain, w_ix, w_call, w_fld, w_new, w_meth, w_noneD, w_setf, w_blt, w_mth, w_comp, w_sl, w_rev, w_neg, w_nil, w_cons, w_and1, w_and2, w_or1, w_or2, w_asg, w_exp, w_ret, w_anm, w_asub, w_orv, w_dcn0, w_dcn1, w_whl, w_callv, w_wipe1, w_wipe2, Ok.ok_iff, subTy, List.getElem?_cons_zero, List.getElem?_cons_succ, List.set_cons_succ, List.set_cons_zero, if_true, Bool.false_eq_true, if_false, Option.map_some, Bool.not_true, Bool.not_false, Bool.true_or, Bool.or_true, Bool.false_or, Bool.or_false, Bool.true_and, Bool.and_true, Bool.false_and, Bool.and_false, eq_self, decide_true, decide_false, beq_self_eq_true, of_some, litD_f, litD_t, bin_add, bin_sub, bin_band, cmp_lti, cmp_lts, cmp_le, cmp_gt, cmp_ge, cmp_none, cmp_nnone, cmp_true, cmp_ntrue, ofB_some, cmp_in, cmp_nin, nonD_non, nonD_s, nonD_t, nonD_i, nonD_l, nonD_r, nonD_b, nonD_x, deref_s, deref_t, deref_l, deref_i, deref_b, deref_n, ok_s, ok_i, ok_b, ok_n, mem_s, flat_s, flat_i, flat_b, flat_n, ix_s, ix_t, ix_l, items_t, items_l, len_s, len_t2, len_t4, len_l, tuple_s, tuple_t, tuple_l, list_s, list_t, list_l, blt_max, blt_min, blt_all, blt_any, ty_s, ty_t, ty_l, ty_i, ty_b, ty_n, rec_join, rec_idx, rec_idxT, tupOnly_t, blt_int1, rec_idxLl, it_s, it_en, it_t, it_l, compI_sq, forI_sq, bind1, rev_s, rev_t, rev_l, blt_inrg, blt_ninrg, rec_upr, bind2, sl_t, sl_s, sl_l, part_i, eq_ss, eq_ii, eq_bb, eq_tn, eq_tc, eq_tc0, eq_t0c, in_nil, in_cons, in_strs, in_sgn, flat_map, all_true, cmp_eq_ii, cmp_eq_ss, cmp_eq_bb, cmp_ne_ii, cmp_ne_ss, bin_shrn, mem_strs, mem_strl, atI_0, atI_1, atI_2, atI_3])
  | `(tactic| wp_walk using w_stp, $[$ts:term],*) => `(tactic| simp only [w_okb, w_bb, w_var, w_con, w_glo, w_tup, w_lst, w_dct, w_bin, w_not, w_and, w_or, w_cmp, w_chain, w_ix, w_call, w_fld, w_new, w_meth, w_noneD, w_setf, w_blt, w_mth, w_comp, w_sl, w_rev, w_neg, w_nil, w_cons, w_and1, w_and2, w_or1, w_or2, w_asg, w_exp, w_ret, w_anm, w_asub, w_orv, w_dcn0, w_dcn1, w_whl, w_callv, w_wipe1, w_wipe2, Ok.ok_iff, subTy, List.getElem?_cons_zero, List.getElem?_cons_succ, List.set_cons_succ, List.set_cons_zero, if_true, Bool.false_eq_true, if_false, Option.map_some, Bool.not_true, Bool.not_false, Bool.true_or, Bool.or_true, Bool.false_or, Bool.or_false, Bool.true_and, Bool.and_true, Bool.false_and, Bool.and_false, eq_self, decide_true, decide_false, beq_self_eq_true, of_some, litD_f, litD_t, bin_add, bin_sub, bin_band, cmp_lti, cmp_lts, cmp_le, cmp_gt, cmp_ge, cmp_none, cmp_nnone, cmp_true, cmp_ntrue, ofB_some, cmp_in, cmp_nin, nonD_non, nonD_s, nonD_t, nonD_i, nonD_l, nonD_r, nonD_b, nonD_x, deref_s, deref_t, deref_l, deref_i, deref_b, deref_n, ok_s, ok_i, ok_b, ok_n, mem_s, flat_s, flat_i, flat_b, flat_n, ix_s, ix_t, ix_l, items_t, items_l, len_s, len_t2, len_t4, len_l, tuple_s, tuple_t, tuple_l, list_s, list_t, list_l, blt_max, blt_min, blt_all, blt_any, ty_s, ty_t, ty_l, ty_i, ty_b, ty_n, rec_join, rec_idx, rec_idxT, tupOnly_t, blt_int1, rec_idxLl, it_s, it_en, it_t, it_l, compI_sq, forI_sq, bind1, rev_s, rev_t, rev_l, blt_inrg, blt_ninrg, rec_upr, bind2, sl_t, sl_s, sl_l, part_i, eq_ss, eq_ii, eq_bb, eq_tn, eq_tc, eq_tc0, eq_t0c, in_nil, in_cons, in_strs, in_sgn, flat_map, all_true, cmp_eq_ii, cmp_eq_ss, cmp_eq_bb, cmp_ne_ii, cmp_ne_ss, bin_shrn, mem_strs, mem_strl, atI_0, atI_1, atI_2, atI_3, $[$ts:term],*])
/-! K1: the class of two rules: its rows -/
def fA (RR : List Rule) (i : Nat) (w : List Char) : Bool := flA RR (RR.map initR) w i
theorem fA_snoc {RR : List Rule} {i : Nat} {w : List Char} {c : Char} : fA RR i (w ++ [c]) = (fA RR i w || stF RR i w c) := flA_app RR (RR.map initR) w [c] i (by rw [List.length_map])
theorem flA_nil : ∀ (RR : List Rule) (ss : List St1) (i : Nat), flA RR ss [] i = false
  | [], ss, i => by cases ss <;> simp [flA, actO]
  | R :: RR, [], i => by simp [flA, actO]
  | R :: RR, s :: ss, 0 => rfl
  | R :: RR, s :: ss, i + 1 => by
    have := flA_nil RR ss i
    unfold flA at this ⊢
    simp only [actO, List.getD_cons_succ]
    exact this
theorem fA_nil {RR : List Rule} {i : Nat} : fA RR i [] = false := flA_nil _ _ _
theorem stW_nil {RR : List Rule} : stW RR [] = RR.map initR := by
  unfold stW
  rw [stepO_nil _ _ (by rw [List.length_map])]
abbrev KP := List St1 × List St1 × Bool × Bool
def kP (b : Bool) (R O : Rule) (w : List Char) : KP := (stW (rbs b [R, O]) w, stW (rbs b [O]) w, fA (rbs b [R, O]) 1 w, fA (rbs b [O]) 0 w)
theorem kP_cong {b : Bool} {R O : Rule} : ∀ (v w : List Char) (c : Char), kP b R O v = kP b R O w → kP b R O (v ++ [c]) = kP b R O (w ++ [c]) := fun v w c h => by
  simp only [kP, Prod.mk.injEq] at h ⊢
  obtain ⟨h1, h2, h3, h4⟩ := h
  refine ⟨by rw [stW_snoc, stW_snoc, h1], by rw [stW_snoc, stW_snoc, h2], ?_, ?_⟩
  · rw [fA_snoc, fA_snoc, h3]
    unfold stF
    rw [h1]
  · rw [fA_snoc, fA_snoc, h4]
    unfold stF
    rw [h2]
def endP (b : Bool) (R O : Rule) (w : List Char) : Bool × Bool := (whF (rbs b [R, O]) 1 w, whF (rbs b [O]) 0 w)
theorem endP_cong {b : Bool} {R O : Rule} {v w : List Char} (h : kP b R O v = kP b R O w) : endP b R O v = endP b R O w := by
  simp only [kP, Prod.mk.injEq] at h
  obtain ⟨h1, h2, h3, h4⟩ := h
  unfold fA at h3 h4
  simp only [endP, wh_end, h3, h4, enF, h1, h2]
/-! as data -/
def nB (x : Bool) : NestedKey := .num (if x = true then 1 else 0)
theorem nB_inj {x y : Bool} (h : nB x = nB y) : x = y := by cases x <;> cases y <;> simp [nB] at h ⊢
def kyP (x : KP) : NestedKey := .tup [ksd x.1, ksd x.2.1, nB x.2.2.1, nB x.2.2.2]
theorem kyP_inj {x y : KP} (h : kyP x = kyP y) : x = y := by
  obtain ⟨a, b, c, d⟩ := x
  obtain ⟨a', b', c', d'⟩ := y
  simp only [kyP, NestedKey.tup.injEq, List.cons.injEq, and_true] at h
  obtain ⟨h1, h2, h3, h4⟩ := h
  rw [ksd_inj h1, ksd_inj h2, nB_inj h3, nB_inj h4]
def pairK (x : KP) : D := .tup [sD1 x.1, sD1 x.2.1, .bl x.2.2.1, .bl x.2.2.2]
theorem nk_sd1 (ss : List St1) : nkD (sD1 ss) = some (ksd ss) := by
  show (nkDs (ss.map stdD)).map NestedKey.tup = _
  rw [nk_stds]
  rfl
theorem key_pair (x : KP) : keyN (pairK x) = some (kyP x) := by
  have h : nkDs [sD1 x.1, sD1 x.2.1, .bl x.2.2.1, .bl x.2.2.2] = some [ksd x.1, ksd x.2.1, nB x.2.2.1, nB x.2.2.2] := by
    simp only [nkDs, nk_sd1, nkD, nB, Option.bind_some, Option.map_some]
  have d1 : ∀ ss : List St1, (ksd ss).depth ≤ 2 := fun ss => by
    unfold ksd
    rw [NestedKey.depth]
    have := dep_stds ss
    omega
  unfold pairK keyN
  simp only [h, Option.bind_some]
  rw [if_pos ?_]
  · rfl
  · have e1 := d1 x.1
    have e2 := d1 x.2.1
    simp only [NestedKey.depth, NestedKey.depthAll, nB]
    omega
/-! the object -/
def pairF (ss : List Char) (b : Bool) (R O : Rule) : List (Str × D) := [(("sounds" : Str), .tup (ss.map fun c => .str [c])), (("side" : Str), .str (sideS b)), (("laid" : Str), ordD b [R, O]), (("alone" : Str), ordD b [O])]
def PairAt (S : Store) (m : Nat) (ss : List Char) (b : Bool) (R O : Rule) : Prop := S[m]? = some (.ins "Pair" (pairF ss b R O))
section
variable {S S' : Store} {m : Nat} {ss : List Char} {b : Bool} {R O : Rule}
theorem PairAt.gr (h : PairAt S m ss b R O) (g : Gr S S') : PairAt S' m ss b R O := g.get h
theorem PairAt.sounds (h : PairAt S m ss b R O) : fldD "Pair" (.ref m) "sounds" S = .ok (.tup (ss.map fun c => .str [c]), S) := fld_of h (by rfl)
theorem PairAt.side (h : PairAt S m ss b R O) : fldD "Pair" (.ref m) "side" S = .ok (.str (sideS b), S) := fld_of h (by rfl)
theorem PairAt.laid (h : PairAt S m ss b R O) : fldD "Pair" (.ref m) "laid" S = .ok (ordD b [R, O], S) := fld_of h (by rfl)
theorem PairAt.alone (h : PairAt S m ss b R O) : fldD "Pair" (.ref m) "alone" S = .ok (ordD b [O], S) := fld_of h (by rfl)
theorem PairAt.m_first (h : PairAt S m ss b R O) : hasM "Pair" "first" (.ref m) S = true := hasM_of h (by rfl)
theorem PairAt.m_behind (h : PairAt S m ss b R O) : hasM "Pair" "behind" (.ref m) S = true := hasM_of h (by rfl)
theorem PairAt.m_ended (h : PairAt S m ss b R O) : hasM "Pair" "ended" (.ref m) S = true := hasM_of h (by rfl)
theorem PairAt.m_rows (h : PairAt S m ss b R O) : hasM "Pair" "rows" (.ref m) S = true := hasM_of h (by rfl)
theorem PairAt.m_with (h : PairAt S m ss b R O) : hasM "Pair" "word_with" (.ref m) S = true := hasM_of h (by rfl)
end
theorem kP_nil {b : Bool} {R O : Rule} : kP b R O [] = ((rbs b [R, O]).map initR, (rbs b [O]).map initR, false, false) := by
  simp only [kP, stW_nil, fA_nil]
theorem e_pfirst {k m : Nat} {S : Store} {ss : List Char} {b : Bool} {R O : Rule} (h : PairAt S m ss b R O) : callF pg (k + 4) "Pair.first" [.ref m] S = .ok (pairK (kP b R O []), S) := by
  refine eq_ok (call_ok (ρ := [some (.ref m)]) fn_c_Pair_first rfl rfl (ss_cons ?_))
  (wp_walk using w_stp, h.laid, h.alone, e_first_standing (k := k) b)
  rw [kP_nil]
  exact nrt (rt rfl)
structure PR (ss : List Char) (b : Bool) (R O : Rule) : Prop where
  gw : ∀ Q ∈ [R, O], GW Q
  g2 : ∀ Q ∈ rbs b [R, O], GR ss Q
  g1 : ∀ Q ∈ rbs b [O], GR ss Q
theorem as_t3 {G : Ctx} {a b c : Nat} {x y z : D} {ρ : Env} {S : Store} : asg G (.tp [.nm a, .nm b, .nm c]) (.tup [x, y, z]) ρ S = .ok (((ρ.set a (some x)).set b (some y)).set c (some z), S) := rfl
theorem as_t2 {G : Ctx} {a b : Nat} {x y : D} {ρ : Env} {S : Store} : asg G (.tp [.nm a, .nm b]) (.tup [x, y]) ρ S = .ok ((ρ.set a (some x)).set b (some y), S) := rfl
theorem step_on {k : Nat} {S : Store} {ss : List Char} (b : Bool) {Rs : List Rule} {w : List Char} {c : Char} (hR : ∀ R ∈ Rs, GW R) (hG : ∀ R ∈ rbs b Rs, GR ss R) (hn : Rs.length ≤ 4) (hw : Over ss w) :
    Ok (callF pg (k + 5) "step_of" [ordD b Rs, sD1 (stW (rbs b Rs) w), .str [c]] S) fun p => p.1 = .tup [sD1 (stW (rbs b Rs) (w ++ [c])), .str (stepO (rbs b Rs) (stW (rbs b Rs) w) [c]).2, .tup ((actO (rbs b Rs) (stW (rbs b Rs) w) [c]).map .bl)] ∧ Gr S p.2 := by
  have hcd := stW_cand hG hw
  have hst := cand_std hcd
  have hsz : Rs.length = (stW (rbs b Rs) w).length := by rw [← cand_size hcd, rbs_len]
  have p4 : 2 ^ Rs.length ≤ 16 := pow_4 hn
  obtain ⟨⟨v, S1⟩, e, hv, g1⟩ := e_step_of (k := k) (S := S) b (u := [c]) hR hst hsz (by rw [List.length_singleton]; omega) (by omega)
  refine ⟨(v, S1), e, ?_, g1⟩
  simp only at hv ⊢
  rw [hv, stW_snoc]
  rfl
theorem act_ix {b : Bool} {ss : List Char} {Rs : List Rule} {w : List Char} {c : Char} {i : Nat} {S : Store} (hG : ∀ R ∈ rbs b Rs, GR ss R) (hw : Over ss w) (hi : i < Rs.length) :
    ixD (.tup ((actO (rbs b Rs) (stW (rbs b Rs) w) [c]).map .bl)) (.int (i : Int)) S = .ok (.bl (stF (rbs b Rs) i w c), S) :=
  ix_bls (by rw [actO_len _ _ _ (stW_len _ _), rbs_len]; exact hi)
theorem end_ix {b : Bool} {ss : List Char} {Rs : List Rule} {w : List Char} {i : Nat} {S : Store} (hi : i < Rs.length) :
    ixD (.tup ((endA (rbs b Rs) (stW (rbs b Rs) w) []).map .bl)) (.int (i : Int)) S = .ok (.bl (enF (rbs b Rs) i w), S) :=
  ix_bls (by rw [endA_len _ _ _ (stW_len _ _), rbs_len]; exact hi)
theorem step_end {k : Nat} {S : Store} {ss : List Char} (b : Bool) {Rs : List Rule} {w : List Char} (hR : ∀ R ∈ Rs, GW R) (hG : ∀ R ∈ rbs b Rs, GR ss R) (hn : Rs.length ≤ 4) (hw : Over ss w) :
    Ok (callF pg (k + 5) "end_step" [ordD b Rs, sD1 (stW (rbs b Rs) w)] S) fun p => p.1 = .tup [.str (endO (rbs b Rs) (stW (rbs b Rs) w) []), .tup ((endA (rbs b Rs) (stW (rbs b Rs) w) []).map .bl)] ∧ Gr S p.2 := by
  have hcd := stW_cand hG hw
  have hst := cand_std hcd
  have hsz : Rs.length = (stW (rbs b Rs) w).length := by rw [← cand_size hcd, rbs_len]
  have p4 : 2 ^ Rs.length ≤ 16 := pow_4 hn
  exact e_end_step (k := k) (S := S) b hR hst hsz (by omega) (by omega)
theorem i_pair {x : KP} {S : Store} : ixD (pairK x) (.int 0) S = .ok (sD1 x.1, S) ∧ ixD (pairK x) (.int 1) S = .ok (sD1 x.2.1, S) ∧ ixD (pairK x) (.int 2) S = .ok (.bl x.2.2.1, S) ∧ ixD (pairK x) (.int 3) S = .ok (.bl x.2.2.2, S) := ⟨rfl, rfl, rfl, rfl⟩
theorem or_bl {G : Ctx} {e1 e2 : E} {ρ : Env} {S : Store} {x y : Bool} (h1 : evE G e1 ρ S = .ok (.bl x, S)) (h2 : evE G e2 ρ S = .ok (.bl y, S)) : evOr G [e1, e2] ρ S = .ok (.bl (x || y), S) := by
  simp only [evOr, h1, R.ok_bind]
  cases x with
  | true => rfl
  | false => simpa using h2
theorem e_pbehind {k m : Nat} {S : Store} {ss : List Char} {b : Bool} {R O : Rule} {w : List Char} {c : Char} (h : PairAt S m ss b R O) (pr : PR ss b R O) (hw : Over ss w) :
    Ok (callF pg (k + 6) "Pair.behind" [.ref m, pairK (kP b R O w), .str [c]] S) fun p => p.1 = pairK (kP b R O (w ++ [c])) ∧ Gr S p.2 := by
  refine call_ok (ρ := [some (.ref m), some (pairK (kP b R O w)), some (.str [c]), none, none, none, none, none, none]) fn_c_Pair_behind rfl rfl (ss_cons ?_)
  obtain ⟨i0, i1, _⟩ := i_pair (x := kP b R O w) (S := S)
  obtain ⟨⟨v1, S1⟩, e1, hv1, g1⟩ := step_on (k := k) (S := S) b (Rs := [R, O]) (c := c) pr.gw pr.g2 (show 2 ≤ 4 by decide) hw
  simp only at hv1
  subst hv1
  replace g1 : Gr S S1 := g1
  replace e1 : callF pg (k + 5) "step_of" [ordD b [R, O], sD1 (kP b R O w).1, .str [c]] S = _ := e1
  (wp_walk using w_stp, h.laid, i0, e1, as_t3)
  refine nx (ss_cons ?_)
  obtain ⟨⟨v2, S2⟩, e2, hv2, g2⟩ := step_on (k := k) (S := S1) b (Rs := [O]) (c := c) (fun Q hQ => pr.gw Q (by simp at hQ; simp [hQ])) pr.g1 (show 1 ≤ 4 by decide) hw
  simp only at hv2
  subst hv2
  replace g2 : Gr S1 S2 := g2
  replace e2 : callF pg (k + 5) "step_of" [ordD b [O], sD1 (kP b R O w).2.1, .str [c]] S1 = _ := e2
  have i1' := (i_pair (x := kP b R O w) (S := S1)).2.1
  (wp_walk using w_stp, (h.gr g1).alone, i1', e2, as_t3)
  refine nx (ss_cons ?_)
  obtain ⟨_, _, j2, j3⟩ := i_pair (x := kP b R O w) (S := S2)
  have a1 := act_ix (S := S2) (Rs := [R, O]) (c := c) (i := 1) pr.g2 hw (show 1 < 2 by decide)
  have a0 := act_ix (S := S2) (Rs := [O]) (c := c) (i := 0) pr.g1 hw (show 0 < 1 by decide)
  have a1 : ixD (.tup ((actO (rbs b [R, O]) (stW (rbs b [R, O]) w) [c]).map .bl)) (.int 1) S2 = .ok (.bl (stF (rbs b [R, O]) 1 w c), S2) := a1
  have a0 : ixD (.tup ((actO (rbs b [O]) (stW (rbs b [O]) w) [c]).map .bl)) (.int 0) S2 = .ok (.bl (stF (rbs b [O]) 0 w c), S2) := a0
  simp only [w_ret, w_tup, w_cons, w_nil, w_or, w_var, List.getElem?_cons_zero, List.getElem?_cons_succ, List.set_cons_succ, List.set_cons_zero, w_okb]
  rw [or_bl (x := (kP b R O w).2.2.1) (y := stF (rbs b [R, O]) 1 w c) (by (wp_walk using w_stp, j2)) (by (wp_walk using w_stp, a1))]
  simp only [w_okb, w_cons, w_nil, w_or]
  rw [or_bl (x := (kP b R O w).2.2.2) (y := stF (rbs b [O]) 0 w c) (by (wp_walk using w_stp, j3)) (by (wp_walk using w_stp, a0))]
  simp only [w_okb]
  rw [Ok.ok_iff]
  refine nrt (rt ⟨?_, g1.trans g2⟩)
  simp only [pairK, kP, fA_snoc]
theorem e_pended {k m : Nat} {S : Store} {ss : List Char} {b : Bool} {R O : Rule} {w : List Char} (h : PairAt S m ss b R O) (pr : PR ss b R O) (hw : Over ss w) :
    Ok (callF pg (k + 6) "Pair.ended" [.ref m, pairK (kP b R O w)] S) fun p => p.1 = .tup [.bl (endP b R O w).1, .bl (endP b R O w).2] ∧ Gr S p.2 := by
  refine call_ok (ρ := [some (.ref m), some (pairK (kP b R O w)), none, none, none, none]) fn_c_Pair_ended rfl rfl (ss_cons ?_)
  obtain ⟨i0, i1, _⟩ := i_pair (x := kP b R O w) (S := S)
  obtain ⟨⟨v1, S1⟩, e1, hv1, g1⟩ := step_end (k := k) (S := S) b (Rs := [R, O]) pr.gw pr.g2 (show 2 ≤ 4 by decide) hw
  simp only at hv1
  subst hv1
  replace g1 : Gr S S1 := g1
  replace e1 : callF pg (k + 5) "end_step" [ordD b [R, O], sD1 (kP b R O w).1] S = _ := e1
  (wp_walk using w_stp, h.laid, i0, e1, as_t2)
  refine nx (ss_cons ?_)
  obtain ⟨⟨v2, S2⟩, e2, hv2, g2⟩ := step_end (k := k) (S := S1) b (Rs := [O]) (fun Q hQ => pr.gw Q (by simp at hQ; simp [hQ])) pr.g1 (show 1 ≤ 4 by decide) hw
  simp only at hv2
  subst hv2
  replace g2 : Gr S1 S2 := g2
  replace e2 : callF pg (k + 5) "end_step" [ordD b [O], sD1 (kP b R O w).2.1] S1 = _ := e2
  have i1' := (i_pair (x := kP b R O w) (S := S1)).2.1
  (wp_walk using w_stp, (h.gr g1).alone, i1', e2, as_t2)
  refine nx (ss_cons ?_)
  obtain ⟨_, _, j2, j3⟩ := i_pair (x := kP b R O w) (S := S2)
  have a1 := end_ix (ss := ss) (b := b) (S := S2) (Rs := [R, O]) (w := w) (i := 1) (show 1 < 2 by decide)
  have a0 := end_ix (ss := ss) (b := b) (S := S2) (Rs := [O]) (w := w) (i := 0) (show 0 < 1 by decide)
  have a1 : ixD (.tup ((endA (rbs b [R, O]) (stW (rbs b [R, O]) w) []).map .bl)) (.int 1) S2 = .ok (.bl (enF (rbs b [R, O]) 1 w), S2) := a1
  have a0 : ixD (.tup ((endA (rbs b [O]) (stW (rbs b [O]) w) []).map .bl)) (.int 0) S2 = .ok (.bl (enF (rbs b [O]) 0 w), S2) := a0
  simp only [w_ret, w_tup, w_cons, w_nil, w_or]
  rw [or_bl (x := (kP b R O w).2.2.1) (y := enF (rbs b [R, O]) 1 w) (by (wp_walk using w_stp, j2)) (by (wp_walk using w_stp, a1))]
  simp only [w_okb, w_cons, w_nil, w_or]
  rw [or_bl (x := (kP b R O w).2.2.2) (y := enF (rbs b [O]) 0 w) (by (wp_walk using w_stp, j3)) (by (wp_walk using w_stp, a0))]
  simp only [w_okb]
  rw [Ok.ok_iff]
  refine nrt (rt ⟨?_, g1.trans g2⟩)
  simp only [endP, wh_end, kP, fA]
end Z

set_option Elab.async false
set_option linter.all false
set_option maxRecDepth 100000
set_option maxHeartbeats 1000000
namespace Z
open PySem L2 PySem.Spec PyProof.Rows
local macro_rules
  | `(tactic| wp_walk using w_stp) => `(tactic| simp only [w_okb, w_bb, w_var, w_con, w_glo, w_tup, w_lst, w_dct, w_bin, w_not, w_and, w_or, w_cmp, w_chain, w_ix, w_call, w_fld, w_new, w_meth, w_noneD, w_setf, w_blt, w_mth, w_comp, w_sl, w_rev, w_neg, w_nil, w_cons, w_and1, w_and2, w_or1, w_or2, w_asg, w_exp, w_ret, w_anm, w_asub, w_orv, w_dcn0, w_dcn1, w_whl, w_callv, w_wipe1, w_wipe2, Ok.ok_iff, subTy, List.getElem?_cons_zero, List.getElem?_cons_succ, List.set_cons_succ, List.set_cons_zero, if_true, Bool.false_eq_true, if_false, Option.map_some, Bool.not_true, Bool.not_false, Bool.true_or, Bool.or_true, Bool.false_or, Bool.or_false, Bool.true_and, Bool.and_true, Bool.false_and, Bool.and_false, eq_self, decide_true, decide_false, beq_self_eq_true, of_some, litD_f, litD_t, bin_add, bin_sub, bin_band, cmp_lti, cmp_lts, cmp_le, cmp_gt, cmp_ge, cmp_none, cmp_nnone, cmp_true, cmp_ntrue, ofB_some, cmp_in, cmp_nin, nonD_non, nonD_s, nonD_t, nonD_i, nonD_l, nonD_r, nonD_b, nonD_x, deref_s, deref_t, deref_l, deref_i, deref_b, deref_n, ok_s, ok_i, ok_b, ok_n, mem_s, flat_s, flat_i, flat_b, flat_n, ix_s, ix_t, ix_l, items_t, items_l, len_s, len_t2, len_t4, len_l, tuple_s, tuple_t, tuple_l, list_s, list_t, list_l, blt_max, blt_min, blt_all, blt_any, ty_s, ty_t, ty_l, ty_i, ty_b, ty_n, rec_join, rec_idx, rec_idxT, tupOnly_t, blt_int1, rec_idxLl, it_s, it_en, it_t, it_l, compI_sq, forI_sq, bind1, rev_s, rev_t, rev_l, blt_inrg, blt_ninrg, rec_upr, bind2, sl_t, sl_s, sl_l, part_i, eq_ss, eq_ii, eq_bb, eq_tn, eq_tc, eq_tc0, eq_t0c, in_nil, in_cons, in_strs, in_sgn, flat_map, all_true, cmp_eq_ii, cmp_eq_ss, cmp_eq_bb, cmp_ne_ii, cmp_ne_ss, bin_shrn, mem_strs, mem_strl, atI_0, atI_1, atI_2, atI_3])
  | `(tactic| wp_walk using w_stp, $[$ts:term],*) => `(tactic| simp only [w_okb, w_bb, w_var, w_con, w_glo, w_tup, w_lst, w_dct, w_bin, w_not, w_and, w_or, w_cmp, w_chain, w_ix, w_call, w_fld, w_new, w_meth, w_noneD, w_setf, w_blt, w_mth, w_comp, w_sl, w_rev, w_neg, w_nil, w_cons, w_and1, w_and2, w_or1, w_or2, w_asg, w_exp, w_ret, w_anm, w_asub, w_orv, w_dcn0, w_dcn1, w_whl, w_callv, w_wipe1, w_wipe2, Ok.ok_iff, subTy, List.getElem?_cons_zero, List.getElem?_cons_succ, List.set_cons_succ, List.set_cons_zero, if_true, Bool.false_eq_true, if_false, Option.map_some, Bool.not_true, Bool.not_false, Bool.true_or, Bool.or_true, Bool.false_or, Bool.or_false, Bool.true_and, Bool.and_true, Bool.false_and, Bool.and_false, eq_self, decide_true, decide_false, beq_self_eq_true, of_some, litD_f, litD_t, bin_add, bin_sub, bin_band, cmp_lti, cmp_lts, cmp_le, cmp_gt, cmp_ge, cmp_none, cmp_nnone, cmp_true, cmp_ntrue, ofB_some, cmp_in, cmp_nin, nonD_non, nonD_s, nonD_t, nonD_i, nonD_l, nonD_r, nonD_b, nonD_x, deref_s, deref_t, deref_l, deref_i, deref_b, deref_n, ok_s, ok_i, ok_b, ok_n, mem_s, flat_s, flat_i, flat_b, flat_n, ix_s, ix_t, ix_l, items_t, items_l, len_s, len_t2, len_t4, len_l, tuple_s, tuple_t, tuple_l, list_s, list_t, list_l, blt_max, blt_min, blt_all, blt_any, ty_s, ty_t, ty_l, ty_i, ty_b, ty_n, rec_join, rec_idx, rec_idxT, tupOnly_t, blt_int1, rec_idxLl, it_s, it_en, it_t, it_l, compI_sq, forI_sq, bind1, rev_s, rev_t, rev_l, blt_inrg, blt_ninrg, rec_upr, bind2, sl_t, sl_s, sl_l, part_i, eq_ss, eq_ii, eq_bb, eq_tn, eq_tc, eq_tc0, eq_t0c, in_nil, in_cons, in_strs, in_sgn, flat_map, all_true, cmp_eq_ii, cmp_eq_ss, cmp_eq_bb, cmp_ne_ii, cmp_ne_ss, bin_shrn, mem_strs, mem_strl, atI_0, atI_1, atI_2, atI_3, $[$ts:term],*])
/-! K2: the rows of two rules, walked -/
def entP (b : Bool) (R O : Rule) (w : List Char) : D := .tup [pairK (kP b R O w), .str w]
structure PS (S0 S : Store) (m1 m2 : Nat) (b : Bool) (R O : Rule) (es : List (List Char)) : Prop where
  gr : Gr S0 S
  l1 : S0.length ≤ m1
  l2 : S0.length ≤ m2
  f : S[m1]? = some (.lst (es.map (entP b R O)))
  d : ∃ ks vs, S[m2]? = some (.dcn ks vs) ∧ ks.length ≤ es.length ∧ ∀ x, inN (kyP x) ks = true ↔ ∃ e ∈ es, kP b R O e = x
theorem PS.more {S0 S S' : Store} {m1 m2 : Nat} {b : Bool} {R O : Rule} {es : List (List Char)} (h : PS S0 S m1 m2 b R O es) (g : Gr S S') : PS S0 S' m1 m2 b R O es := by
  obtain ⟨ks, vs, e1, e2, e3⟩ := h.d
  exact ⟨h.gr.trans g, h.l1, h.l2, g.get h.f, ks, vs, g.get e1, e2, e3⟩
def candP (ss : List Char) (b : Bool) (R O : Rule) : List KP := (candS ss (rbs b [R, O])).flatMap fun a => (candS ss (rbs b [O])).flatMap fun c => [(a, c, false, false), (a, c, false, true), (a, c, true, false), (a, c, true, true)]
theorem candP_len {ss : List Char} {b : Bool} {R O : Rule} (h4 : ss.length ≤ 4) : (candP ss b R O).length ≤ 2628 := by
  have h : (candP ss b R O).length = manyS ss.length 2 * (manyS ss.length 1 * 4) := by
    unfold candP
    rw [fm_len (n := manyS ss.length 1 * 4) fun a _ => ?_, cand_len, rbs_len]
    · rfl
    · rw [fm_len (n := 4) fun _ _ => rfl, cand_len, rbs_len]
      rfl
  have : ∀ n, n ≤ 4 → manyS n 2 * (manyS n 1 * 4) ≤ 2628 := by decide
  rw [h]
  exact this _ h4
theorem kP_cand {ss : List Char} {b : Bool} {R O : Rule} (pr : PR ss b R O) {w : List Char} (hw : Over ss w) : kP b R O w ∈ candP ss b R O := by
  unfold candP kP
  refine List.mem_flatMap.mpr ⟨_, stW_cand pr.g2 hw, List.mem_flatMap.mpr ⟨_, stW_cand pr.g1 hw, ?_⟩⟩
  cases fA (rbs b [R, O]) 1 w <;> cases fA (rbs b [O]) 0 w <;> simp
theorem rows_few {ss : List Char} {b : Bool} {R O : Rule} {at' : Nat} {es : List (List Char)} (pr : PR ss b R O) (h4 : ss.length ≤ 4) (h : BF ss (kP b R O) at' es) : es.length ≤ 2628 :=
  Nat.le_trans (h.bound fun w hw => kP_cand pr hw) (candP_len h4)
def rwB : List Z.S := [.asg (.nm 7) (.meth "Pair" "behind" "Pair.behind" (.var 0) [.var 5, .var 4]),
      .ite (.cmp .notIn (.var 7) (.var 2)) [.asg (.sub (.var 2) (.var 7)) (.con (.bl true)),
      .exp (.mth .append (.var 1) [.tup [.var 7, .bin .add (.var 6) (.var 4)]])] []]
theorem row_one {k at' m m1 m2 : Nat} {b : Bool} {R O : Rule} {ss : List Char} {S0 S : Store} {es : List (List Char)} {u : List Char} {c : Char} {x3 x7 : Option D} (pa : PairAt S m ss b R O) (pr : PR ss b R O) (h4 : ss.length ≤ 4)
    (bf : BF ss (kP b R O) at' es) (as : PS S0 S m1 m2 b R O es) (hu : es[at']? = some u) (hc : c ∈ ss) :
    Ok (evSs (cx (k + 6)) rwB [some (.ref m), some (.ref m1), some (.ref m2), x3, some (.str [c]), some (pairK (kP b R O u)), some (.str u), x7] S) fun p => p.1 = .nx ∧ ∃ es' x7, es' = pushB (kP b R O) u es c ∧ BF ss (kP b R O) at' es' ∧ PS S0 p.2.2 m1 m2 b R O es' ∧ (∃ t, es' = es ++ t) ∧ (∃ d ∈ es', kP b R O d = kP b R O (u ++ [c])) ∧ p.2.1 = [some (.ref m), some (.ref m1), some (.ref m2), x3, some (.str [c]), some (pairK (kP b R O u)), some (.str u), x7] := by
  have hov := bf.ov _ (List.mem_of_getElem? hu)
  have hul := bf.ln at' _ hu
  have hal := bf.al
  have hfew := rows_few pr h4 bf
  unfold rwB
  refine ss_cons ?_
  obtain ⟨⟨v1, S1⟩, e1, hv1, g1⟩ := e_pbehind (k := k) (c := c) pa pr hov
  simp only at hv1
  subst hv1
  replace g1 : Gr S S1 := g1
  (wp_walk using w_stp, pa.m_behind, e1)
  have as1 := as.more g1
  obtain ⟨ks, vs, d1, d2, d3⟩ := as1.d
  have h12 : m1 ≠ m2 := fun z => by
    have := as1.f
    rw [z, d1] at this
    cases this
  have hk := key_pair (kP b R O (u ++ [c]))
  have ad : ∀ S : Store, binD .add (.str u) (.str [c]) S = .ok (.str (u ++ [c]), S) := fun S => adds_ok (by rw [List.length_singleton]; omega)
  refine nx (ss_cons (ite_ok ?_))
  by_cases hin : inN (kyP (kP b R O (u ++ [c]))) ks = true
  · have m1' : memD S1 (pairK (kP b R O (u ++ [c]))) (.ref m2) = some true := by rw [mem_n d1 hk, hin]
    (wp_walk using w_stp, m1')
    have hex := (d3 _).mp hin
    exact i_f (ss_nil (nx (ss_nil ⟨rfl, es, _, (pushB_old hex).symm, bf, as1, ⟨[], by simp⟩, hex, rfl⟩)))
  · have m1' : memD S1 (pairK (kP b R O (u ++ [c]))) (.ref m2) = some false := by rw [mem_n d1 hk]; simpa using hin
    have hnew : ∀ e ∈ es, kP b R O e ≠ kP b R O (u ++ [c]) := fun e he q => hin ((d3 _).mpr ⟨e, he, q⟩)
    (wp_walk using w_stp, m1')
    refine i_t (ss_cons ?_)
    (wp_walk using w_stp, put_n d1 hk (by rw [sizeL]; omega))
    refine nx (ss_cons ?_)
    have f2 : (S1.set m2 (.dcn (putN ks vs (pairK (kP b R O (u ++ [c]))) (kyP (kP b R O (u ++ [c]))) (.bl true)).1 (putN ks vs (pairK (kP b R O (u ++ [c]))) (kyP (kP b R O (u ++ [c]))) (.bl true)).2))[m1]? = some (.lst (es.map (entP b R O))) := set_other as1.f (Ne.symm h12)
    (wp_walk using w_stp, rec_app f2, ad, mth_app f2 (show _ < sizeLine by rw [List.length_map, sizeL]; omega))
    refine nx (ss_nil (nx (ss_nil ⟨rfl, es ++ [u ++ [c]], _, (pushB_new hnew).symm, bf.push hu hc hnew, ⟨(as1.gr.late as1.l2).late as1.l1, as1.l1, as1.l2, ?_, _, _, set_other (set_same d1) h12, ?_, fun x => ?_⟩, ⟨_, rfl⟩, ⟨_, List.mem_append_right _ (List.mem_singleton.mpr rfl), rfl⟩, rfl⟩)))
    · rw [set_same f2, List.map_append]
      rfl
    · have := (in_putN (ks := ks) (vs := vs) (d := .bl true) (k := kyP (kP b R O (u ++ [c]))) hk).2
      rw [List.length_append, List.length_singleton]
      omega
    · rw [(in_putN (ks := ks) (vs := vs) (d := .bl true) (k := kyP x) hk).1, Bool.or_eq_true, d3 x, decide_eq_true_eq]
      constructor
      · rintro (⟨e, he, q⟩ | q)
        · exact ⟨e, List.mem_append_left _ he, q⟩
        · exact ⟨_, List.mem_append_right _ (List.mem_singleton.mpr rfl), kyP_inj q⟩
      · rintro ⟨e, he, q⟩
        rcases List.mem_append.mp he with he | he
        · exact .inl ⟨e, he, q⟩
        · rw [List.mem_singleton.mp he] at q
          exact .inr (by rw [q])
def rwW : List Z.S := [.asg (.tp [.nm 5, .nm 6]) (.ix (.var 1) (.var 3)),
      .asg (.nm 3) (.bin .add (.var 3) (.con (.int 1))),
      .fo [4] true .sq [.fld "Pair" (.var 0) "sounds"] rwB]
theorem c_Pair_rows_at : c_Pair_rows = ⟨1, 8, [.asg (.nm 1) (.lst true [.tup [.meth "Pair" "first" "Pair.first" (.var 0) [], .con (.str [])]]),
    .asg (.nm 2) (.dcn [.meth "Pair" "first" "Pair.first" (.var 0) []] [.con (.bl true)]),
    .asg (.nm 3) (.con (.int 0)),
    .whl (.cmp .lt (.var 3) (.blt false .len [.var 1])) rwW,
    .ret (.var 1)]⟩ := rfl
theorem e_prows {k m : Nat} {S : Store} {ss : List Char} {b : Bool} {R O : Rule} (pa : PairAt S m ss b R O) (pr : PR ss b R O) (h4 : ss.length ≤ 4) :
    Ok (callF pg (k + 7) "Pair.rows" [.ref m] S) fun p => ∃ m1 es, p.1 = .ref m1 ∧ p.2[m1]? = some (.lst (es.map (entP b R O))) ∧ Gr S p.2 ∧ BF ss (kP b R O) es.length es ∧ es = esB ss (kP b R O) es.length := by
  have hf := fn_c_Pair_rows
  rw [c_Pair_rows_at] at hf
  refine call_ok (ρ := [some (.ref m), none, none, none, none, none, none, none]) hf rfl rfl (ss_cons ?_)
  have ef : ∀ {S : Store}, PairAt S m ss b R O → callF pg (k + 6) "Pair.first" [.ref m] S = .ok (pairK (kP b R O []), S) := fun h => e_pfirst (k := k + 2) h
  (wp_walk using w_stp, pa.m_first, ef pa)
  have i0 : (S ++ [Z.O.lst [.tup [pairK (kP b R O []), .str []]]])[S.length]? = some (.lst ([([] : List Char)].map (entP b R O))) := by
    simp [entP]
  have g1 : Gr S (S ++ [Z.O.lst [.tup [pairK (kP b R O []), .str []]]]) := Gr.push
  have hl1 : (S ++ [Z.O.lst [.tup [pairK (kP b R O []), .str []]]]).length = S.length + 1 := by simp
  generalize S ++ [Z.O.lst [.tup [pairK (kP b R O []), .str []]]] = S1 at i0 g1 hl1 ⊢
  refine nx (ss_cons ?_)
  have pa1 := pa.gr g1
  (wp_walk using w_stp, pa1.m_first, ef pa1, key_pair (kP b R O []))
  refine nx (ss_cons ?_)
  (wp_walk using w_stp)
  refine nx (ss_cons ?_)
  have as0 : PS S (S1 ++ [Z.O.dcn [pairK (kP b R O [])] [.bl true]]) S.length S1.length b R O [[]] := by
    refine ⟨g1.trans Gr.push, Nat.le_refl _, by omega, Gr.push.get i0, [pairK (kP b R O [])], [.bl true], by simp, by simp, fun x => ?_⟩
    unfold inN
    rw [List.any_cons, key_pair]
    simp only [List.any_nil, Bool.or_false, decide_eq_true_eq, Option.some.injEq, List.mem_singleton]
    constructor
    · intro h
      exact ⟨_, rfl, kyP_inj h⟩
    · rintro ⟨e, rfl, h⟩
      rw [← h]
  (wp_walk using w_stp)
  generalize S.length = m1 at as0 ⊢
  generalize S1.length = m2 at as0 ⊢
  generalize S1 ++ [Z.O.dcn [pairK (kP b R O [])] [.bl true]] = S2 at as0 ⊢
  refine whl_all (fun j ρ S' => ∃ (at' : Nat) (es : List (List Char)) (x4 x5 x6 x7 : Option D), j + at' = 3000 ∧ es = esB ss (kP b R O) at' ∧ BF ss (kP b R O) at' es ∧ PS S S' m1 m2 b R O es ∧ ρ = [some (.ref m), some (.ref m1), some (.ref m2), some (.int (at' : Int)), x4, x5, x6, x7]) ?_ 100000 3000 (by decide) ⟨0, _, _, _, _, _, rfl, rfl, BF.init, as0, rfl⟩
  rintro j _ S' ⟨at', es, x4, x5, x6, x7, hj, hes, bf, as, rfl⟩
  have hal := bf.al
  have hfew := rows_few pr h4 bf
  (wp_walk using w_stp, len_r as.f, List.length_map)
  by_cases hlt : at' < es.length
  · have d1 : decide ((at' : Int) < (es.length : Int)) = true := decide_eq_true (by omega)
    refine .inr ⟨by rw [d1], ?_⟩
    obtain ⟨u, hu⟩ : ∃ u, es[at']? = some u := ⟨_, List.getElem?_eq_getElem hlt⟩
    have ea : atI (es.map (entP b R O)) (at' : Int) = some (.tup [pairK (kP b R O u), .str u]) := by
      rw [atI_n, List.getElem?_map, hu]
      rfl
    unfold rwW
    refine ss_cons ?_
    (wp_walk using w_stp, ix_r as.f, ea, as_t2)
    refine nx (ss_cons ?_)
    (wp_walk using w_stp)
    refine nx (ss_cons (fo_ok ?_))
    have pa' := pa.gr as.gr
    (wp_walk using w_stp, pa'.sounds)
    refine fo_ it_t ((forL_inv (fun pre ρ S'' => ∃ (es' : List (List Char)) (x4 x7 : Option D), pre.length ≤ ss.length ∧ es' = (ss.take pre.length).foldl (pushB (kP b R O) u) es ∧ BF ss (kP b R O) at' es' ∧ PS S S'' m1 m2 b R O es' ∧ (∃ t, es' = es ++ t) ∧ (∀ c : Char, D.str [c] ∈ pre → ∃ d ∈ es', kP b R O d = kP b R O (u ++ [c])) ∧ ρ = [some (.ref m), some (.ref m1), some (.ref m2), some (.int ((at' : Int) + 1)), x4, some (pairK (kP b R O u)), some (.str u), x7]) ⟨es, _, _, Nat.zero_le _, rfl, bf, as, ⟨[], by simp⟩, fun _ h => (nomatch h), rfl⟩ ?_).mono ?_)
    · rintro pre d post _ S'' ee ⟨es', x4, x7, hpl, hfo, bf', as', ⟨t, ht⟩, hcl, rfl⟩
      have hd : d ∈ ss.map fun c => D.str [c] := by rw [ee]; simp
      obtain ⟨c, hc, rfl⟩ := List.mem_map.mp hd
      have hpl2 : pre.length < ss.length := by
        have := congrArg List.length ee
        rw [List.length_map, List.length_append, List.length_cons] at this
        omega
      have htk : ss.take (pre.length + 1) = ss.take pre.length ++ [c] := by
        obtain ⟨p, c', q, hpq, hp, hd', _⟩ := signs_split ee
        have hcc : c = c' := by
          simp only [D.str.injEq, List.cons.injEq, and_true] at hd'
          exact hd'
        rw [hp, List.length_map, hpq, hcc, show p ++ c' :: q = (p ++ [c']) ++ q by simp, List.take_left' (by simp), List.append_assoc, List.take_left' rfl]
      have hu' : es'[at']? = some u := by rw [ht, List.getElem?_append_left hlt]; exact hu
      refine (row_one (k := k) (x3 := some (.int ((at' : Int) + 1))) (x7 := x7) (pa.gr as'.gr) pr h4 bf' as' hu' hc).mono ?_
      rintro ⟨_, _, S5⟩ ⟨rfl, es2, y7, hpf, bf2, as2, ⟨t2, ht2⟩, hc2, rfl⟩
      refine ⟨.inl rfl, es2, _, _, by rw [List.length_append, List.length_singleton]; omega, by rw [List.length_append, List.length_singleton, htk, List.foldl_append, ← hfo]; exact hpf, bf2, as2, ⟨t ++ t2, by rw [ht2, ht, List.append_assoc]⟩, fun q hq => ?_, rfl⟩
      rcases List.mem_append.mp hq with hq | hq
      · obtain ⟨d, z2, z3⟩ := hcl q hq
        exact ⟨d, by rw [ht2]; exact List.mem_append_left _ z2, z3⟩
      · simp only [List.mem_singleton, D.str.injEq, List.cons.injEq, and_true] at hq
        rw [hq]
        exact hc2
    · rintro ⟨_, _, S5⟩ ⟨rfl, es', x4, x7, hpl, hfo, bf', as', ⟨t, ht⟩, hcl, rfl⟩
      have hu' : es'[at']? = some u := by rw [ht, List.getElem?_append_left hlt]; exact hu
      have bf2 := bf'.next hu' fun c hc => hcl c (List.mem_map.mpr ⟨c, hc, rfl⟩)
      have as' : PS S S5 m1 m2 b R O es' := as'
      have hfo : es' = (ss.take (ss.map fun c => D.str [c]).length).foldl (pushB (kP b R O) u) es := hfo
      rw [List.length_map, List.take_length] at hfo
      exact nx (ss_nil (.inl ⟨.inl rfl, j - 1, by omega, at' + 1, es', _, _, _, _, by omega, by rw [esB_step (by rw [← hes]; exact hu), ← hes]; exact hfo, bf2, as', rfl⟩))
  · have d1 : decide ((at' : Int) < (es.length : Int)) = false := decide_eq_false (by omega)
    refine .inl ⟨by rw [d1], nx (ss_cons ?_)⟩
    (wp_walk using w_stp)
    have : at' = es.length := by omega
    subst this
    exact nrt (rt ⟨m1, es, rfl, as.f, as.gr, bf, hes⟩)
theorem esB_one {K : Type} {ss : List Char} {κ : List Char → K} {es fs : List (List Char)} (h : es = esB ss κ es.length) (g : fs = esB ss κ fs.length) : es = fs := by
  have key : ∀ {es fs : List (List Char)}, es = esB ss κ es.length → fs = esB ss κ fs.length → es.length ≤ fs.length → es = fs := fun {es fs} h g hl => by
    have := esB_stay (ss := ss) (κ := κ) (n := es.length) (by rw [← h]; exact Nat.le_refl _) _ hl
    rw [g, this, ← h]
  rcases Nat.le_total es.length fs.length with z | z
  · exact key h g z
  · exact (key g h z).symm
end Z

set_option Elab.async false
set_option linter.all false
set_option maxRecDepth 100000
set_option maxHeartbeats 1000000
namespace Z
open PySem L2 PySem.Spec PyProof.Rows
local macro_rules
  | `(tactic| wp_walk using w_stp) => `(tactic| simp only [w_okb, w_bb, w_var, w_con, w_glo, w_tup, w_lst, w_dct, w_bin, w_not, w_and, w_or, w_cmp, w_chain, w_ix, w_call, w_fld, w_new, w_meth, w_noneD, w_setf, w_blt, w_mth, w_comp, w_sl, w_rev, w_neg, w_nil, w_cons, w_and1, w_and2, w_or1, w_or2, w_asg, w_exp, w_ret, w_anm, w_asub, w_orv, w_dcn0, w_dcn1, w_whl, w_callv, w_wipe1, w_wipe2, Ok.ok_iff, subTy, List.getElem?_cons_zero, List.getElem?_cons_succ, List.set_cons_succ, List.set_cons_zero, if_true, Bool.false_eq_true, if_false, Option.map_some, Bool.not_true, Bool.not_false, Bool.true_or, Bool.or_true, Bool.false_or, Bool.or_false, Bool.true_and, Bool.and_true, Bool.false_and, Bool.and_false, eq_self, decide_true, decide_false, beq_self_eq_true, of_some, litD_f, litD_t, bin_add, bin_sub, bin_band, cmp_lti, cmp_lts, cmp_le, cmp_gt, cmp_ge, cmp_none, cmp_nnone, cmp_true, cmp_ntrue, ofB_some, cmp_in, cmp_nin, nonD_non, nonD_s, nonD_t, nonD_i, nonD_l, nonD_r, nonD_b, nonD_x, deref_s, deref_t, deref_l, deref_i, deref_b, deref_n, ok_s, ok_i, ok_b, ok_n, mem_s, flat_s, flat_i, flat_b, flat_n, ix_s, ix_t, ix_l, items_t, items_l, len_s, len_t2, len_t4, len_l, tuple_s, tuple_t, tuple_l, list_s, list_t, list_l, blt_max, blt_min, blt_all, blt_any, ty_s, ty_t, ty_l, ty_i, ty_b, ty_n, rec_join, rec_idx, rec_idxT, tupOnly_t, blt_int1, rec_idxLl, it_s, it_en, it_t, it_l, compI_sq, forI_sq, bind1, rev_s, rev_t, rev_l, blt_inrg, blt_ninrg, rec_upr, bind2, sl_t, sl_s, sl_l, part_i, eq_ss, eq_ii, eq_bb, eq_tn, eq_tc, eq_tc0, eq_t0c, in_nil, in_cons, in_strs, in_sgn, flat_map, all_true, cmp_eq_ii, cmp_eq_ss, cmp_eq_bb, cmp_ne_ii, cmp_ne_ss, bin_shrn, mem_strs, mem_strl, atI_0, atI_1, atI_2, atI_3])
  | `(tactic| wp_walk using w_stp, $[$ts:term],*) => `(tactic| simp only [w_okb, w_bb, w_var, w_con, w_glo, w_tup, w_lst, w_dct, w_bin, w_not, w_and, w_or, w_cmp, w_chain, w_ix, w_call, w_fld, w_new, w_meth, w_noneD, w_setf, w_blt, w_mth, w_comp, w_sl, w_rev, w_neg, w_nil, w_cons, w_and1, w_and2, w_or1, w_or2, w_asg, w_exp, w_ret, w_anm, w_asub, w_orv, w_dcn0, w_dcn1, w_whl, w_callv, w_wipe1, w_wipe2, Ok.ok_iff, subTy, List.getElem?_cons_zero, List.getElem?_cons_succ, List.set_cons_succ, List.set_cons_zero, if_true, Bool.false_eq_true, if_false, Option.map_some, Bool.not_true, Bool.not_false, Bool.true_or, Bool.or_true, Bool.false_or, Bool.or_false, Bool.true_and, Bool.and_true, Bool.false_and, Bool.and_false, eq_self, decide_true, decide_false, beq_self_eq_true, of_some, litD_f, litD_t, bin_add, bin_sub, bin_band, cmp_lti, cmp_lts, cmp_le, cmp_gt, cmp_ge, cmp_none, cmp_nnone, cmp_true, cmp_ntrue, ofB_some, cmp_in, cmp_nin, nonD_non, nonD_s, nonD_t, nonD_i, nonD_l, nonD_r, nonD_b, nonD_x, deref_s, deref_t, deref_l, deref_i, deref_b, deref_n, ok_s, ok_i, ok_b, ok_n, mem_s, flat_s, flat_i, flat_b, flat_n, ix_s, ix_t, ix_l, items_t, items_l, len_s, len_t2, len_t4, len_l, tuple_s, tuple_t, tuple_l, list_s, list_t, list_l, blt_max, blt_min, blt_all, blt_any, ty_s, ty_t, ty_l, ty_i, ty_b, ty_n, rec_join, rec_idx, rec_idxT, tupOnly_t, blt_int1, rec_idxLl, it_s, it_en, it_t, it_l, compI_sq, forI_sq, bind1, rev_s, rev_t, rev_l, blt_inrg, blt_ninrg, rec_upr, bind2, sl_t, sl_s, sl_l, part_i, eq_ss, eq_ii, eq_bb, eq_tn, eq_tc, eq_tc0, eq_t0c, in_nil, in_cons, in_strs, in_sgn, flat_map, all_true, cmp_eq_ii, cmp_eq_ss, cmp_eq_bb, cmp_ne_ii, cmp_ne_ss, bin_shrn, mem_strs, mem_strl, atI_0, atI_1, atI_2, atI_3, $[$ts:term],*])
/-! K3: the class of two rules: made, asked for a word -/
theorem e_pinit {k m : Nat} {S0 S : Store} {st : Stk} {ss : List Char} {b : Bool} {R O : Rule} (hst : st.map (·.1) = ss) (h4 : ss.length ≤ 4) (pr : PR ss b R O) (f2 : Few ss (rbs b [R, O])) (f1 : Few ss (rbs b [O])) (g0 : Gr S0 S) (hm : S0.length ≤ m) (h : S[m]? = some (.ins "Pair" [])) :
    Ok (callF pg (k + 8) "Pair.__init__" [.ref m, stockD st, .str (sideS b), ruleD R, ruleD O] S) fun p => p.1 = .non ∧ Gr S0 p.2 ∧ PairAt p.2 m ss b R O := by
  refine call_ok (ρ := [some (.ref m), some (stockD st), some (.str (sideS b)), some (ruleD R), some (ruleD O)]) fn_c_Pair__init rfl rfl (ss_cons ?_)
  have s1 : ∀ d : D, setFD "Pair" (.ref m) "sounds" d S = .ok (S.set m (.ins "Pair" (putFD "sounds" d []))) := fun d => setF_of h (show 0 < 1000 by decide)
  (wp_walk using w_stp, e_sounds_of', sds_chars hst, s1)
  have h1 := set_same (o := .ins "Pair" (putFD "sounds" (.tup (ss.map fun c => .str [c])) [])) h
  have g1 := g0.late (o := .ins "Pair" (putFD "sounds" (.tup (ss.map fun c => .str [c])) [])) hm
  generalize S.set m (.ins "Pair" (putFD "sounds" (.tup (ss.map fun c => .str [c])) [])) = S1 at h1 g1 ⊢
  refine nx (ss_cons ?_)
  have s2 : ∀ d : D, setFD "Pair" (.ref m) "side" d S1 = .ok (S1.set m (.ins "Pair" (putFD "side" d (putFD "sounds" (.tup (ss.map fun c => .str [c])) [])))) := fun d => setF_of h1 (show 1 < 1000 by decide)
  (wp_walk using w_stp, s2)
  have h2 := set_same (o := .ins "Pair" (putFD "side" (.str (sideS b)) (putFD "sounds" (.tup (ss.map fun c => .str [c])) []))) h1
  have g2 := g1.late (o := .ins "Pair" (putFD "side" (.str (sideS b)) (putFD "sounds" (.tup (ss.map fun c => .str [c])) []))) hm
  generalize S1.set m (.ins "Pair" (putFD "side" (.str (sideS b)) (putFD "sounds" (.tup (ss.map fun c => .str [c])) []))) = S2 at h2 g2 ⊢
  refine nx (ss_cons ?_)
  have s3 : ∀ d : D, setFD "Pair" (.ref m) "laid" d S2 = .ok (S2.set m (.ins "Pair" (putFD "laid" d (putFD "side" (.str (sideS b)) (putFD "sounds" (.tup (ss.map fun c => .str [c])) []))))) := fun d => setF_of h2 (show 2 < 1000 by decide)
  (wp_walk using w_stp, s3)
  have h3 := set_same (o := .ins "Pair" (putFD "laid" (ordD b [R, O]) (putFD "side" (.str (sideS b)) (putFD "sounds" (.tup (ss.map fun c => .str [c])) [])))) h2
  have g3 := g2.late (o := .ins "Pair" (putFD "laid" (ordD b [R, O]) (putFD "side" (.str (sideS b)) (putFD "sounds" (.tup (ss.map fun c => .str [c])) [])))) hm
  rw [show D.tup [.str (sideS b), .tup [ruleD R, ruleD O]] = ordD b [R, O] from rfl]
  generalize S2.set m (.ins "Pair" (putFD "laid" (ordD b [R, O]) (putFD "side" (.str (sideS b)) (putFD "sounds" (.tup (ss.map fun c => .str [c])) [])))) = S3 at h3 g3 ⊢
  refine nx (ss_cons ?_)
  have s4 : ∀ d : D, setFD "Pair" (.ref m) "alone" d S3 = .ok (S3.set m (.ins "Pair" (putFD "alone" d (putFD "laid" (ordD b [R, O]) (putFD "side" (.str (sideS b)) (putFD "sounds" (.tup (ss.map fun c => .str [c])) [])))))) := fun d => setF_of h3 (show 3 < 1000 by decide)
  (wp_walk using w_stp, s4)
  have h4' := set_same (o := .ins "Pair" (putFD "alone" (ordD b [O]) (putFD "laid" (ordD b [R, O]) (putFD "side" (.str (sideS b)) (putFD "sounds" (.tup (ss.map fun c => .str [c])) []))))) h3
  have g4 := g3.late (o := .ins "Pair" (putFD "alone" (ordD b [O]) (putFD "laid" (ordD b [R, O]) (putFD "side" (.str (sideS b)) (putFD "sounds" (.tup (ss.map fun c => .str [c])) []))))) hm
  rw [show D.tup [.str (sideS b), .tup [ruleD O]] = ordD b [O] from rfl]
  generalize S3.set m (.ins "Pair" (putFD "alone" (ordD b [O]) (putFD "laid" (ordD b [R, O]) (putFD "side" (.str (sideS b)) (putFD "sounds" (.tup (ss.map fun c => .str [c])) []))))) = S4 at h4' g4 ⊢
  have pa : PairAt S4 m ss b R O := h4'
  refine nx (ss_cons ?_)
  obtain ⟨⟨v5, S5⟩, e5, _, _, hv5, _, g5, _⟩ := e_reached (k := k) (S := S4) b hst pr.gw pr.g2 (show 2 ≤ 4 by decide) f2
  replace g5 : Gr S4 S5 := g5
  replace e5 : callF pg (k + 7) "reached" [stockD st, ordD b [R, O]] S4 = .ok (v5, S5) := e5
  (wp_walk using w_stp, pa.laid, e5)
  refine nx (ss_cons ?_)
  have pa5 := pa.gr g5
  obtain ⟨⟨v6, S6⟩, e6, _, _, hv6, _, g6, _⟩ := e_reached (k := k) (S := S5) b (Rs := [O]) hst (fun Q hQ => pr.gw Q (by simp at hQ; simp [hQ])) pr.g1 (show 1 ≤ 4 by decide) f1
  replace g6 : Gr S5 S6 := g6
  replace e6 : callF pg (k + 7) "reached" [stockD st, ordD b [O]] S5 = .ok (v6, S6) := e6
  (wp_walk using w_stp, pa5.alone, e6)
  exact nx (ss_nil ⟨rfl, (g4.trans g5).trans g6, pa5.gr g6⟩)
/-! a list of the store walked in a loop, that stays -/
theorem forR_go {f : D → Env → Store → R (Fl × Env × Store)} {n : Nat} {ds : List D} {Q : Fl × Env × Store → Prop} (I : Nat → Env → Store → Prop)
    (st : ∀ i d ρ S, ds[i]? = some d → I i ρ S → S[n]? = some (.lst ds) → Ok (f d ρ S) fun p => ((p.1 = .nx ∨ p.1 = .ct) ∧ p.2.2[n]? = some (.lst ds) ∧ I (i + 1) p.2.1 p.2.2) ∨ ∃ v, p.1 = .rt v ∧ Q p)
    (en : ∀ ρ S, I ds.length ρ S → Q (.nx, ρ, S)) :
    ∀ (m i : Nat) (ρ : Env) (S : Store), i + m = ds.length → S[n]? = some (.lst ds) → I i ρ S → Ok (forR f n ds.length m i ρ S) Q
  | 0, i, ρ, S, h, hn, hI => by
    have : i = ds.length := by omega
    subst this
    simp only [forR, hn, if_true]
    rw [Ok.ok_iff]
    exact en ρ S hI
  | m + 1, i, ρ, S, h, hn, hI => by
    obtain ⟨d, hd⟩ : ∃ d, ds[i]? = some d := ⟨_, List.getElem?_eq_getElem (by omega)⟩
    simp only [forR, hn, hd, if_true]
    refine Ok.bind (st i d ρ S hd hI hn) ?_
    rintro ⟨fl, ρ', S'⟩ (⟨h1, h2, h3⟩ | ⟨v, h1, h2⟩)
    · rcases h1 with h1 | h1
      · simp only at h1
        subst h1
        exact forR_go I st en m (i + 1) ρ' S' (by omega) h2 h3
      · simp only at h1
        subst h1
        exact forR_go I st en m (i + 1) ρ' S' (by omega) h2 h3
    · simp only at h1
      subst h1
      show Ok (R.ok (Fl.rt v, ρ', S')) Q
      rw [Ok.ok_iff]
      exact h2
theorem fo_rf {G : Ctx} {g : List Nat} {one : Bool} {its : List E} {b : List Z.S} {ρ : Env} {S S1 : Store} {n : Nat} {ds : List D} {Q : Fl × Env × Store → Prop} (h1 : evEs G its ρ S = .ok ([.ref n], S1)) (hn : S1[n]? = some (.lst ds))
    (h2 : Ok (forR (fun d ρ s => (bindG g one d ρ).bind fun ρ' => evSs G b ρ' s) n ds.length ds.length 0 ρ S1) Q) : Ok (evS G (.fo g one .sq its b) ρ S) Q := by
  have h3 : itrD .sq [.ref n] S1 = .ok (.rf n) := by simp only [itrD, hn]
  simp only [evS, h1, R.ok_bind, h3, forI, hn]
  exact h2
theorem find_at {A : Type} {P : A → Bool} {xs : List A} {i : Nat} {x : A} (h : xs[i]? = some x) (hx : P x = true) (hn : ∀ (j : Nat) y, j < i → xs[j]? = some y → P y = false) : xs.find? P = some x := by
  refine List.find?_eq_some_iff_append.mpr ⟨hx, xs.take i, xs.drop (i + 1), ?_, fun a ha => ?_⟩
  · have hi := (List.getElem?_eq_some_iff.mp h).1
    have : xs.drop i = x :: xs.drop (i + 1) := by
      rw [List.drop_eq_getElem_cons hi]
      rw [List.getElem?_eq_getElem hi] at h
      rw [Option.some.inj h]
    rw [← this, List.take_append_drop]
  · obtain ⟨j, hj, ej⟩ := List.getElem_of_mem ha
    rw [List.length_take] at hj
    have := hn j a (by omega) (by rw [List.getElem_take] at ej; rw [List.getElem?_eq_getElem (by omega), ej])
    rw [this]
    rfl
theorem find_no {A : Type} {P : A → Bool} {xs : List A} (hn : ∀ (j : Nat) y, xs[j]? = some y → P y = false) : xs.find? P = none :=
  List.find?_eq_none.mpr fun x hx => by
    obtain ⟨j, hj, ej⟩ := List.getElem_of_mem hx
    rw [hn j x (by rw [List.getElem?_eq_getElem hj, ej])]
    decide
def ansD (b : Bool) : Option (List Char) → D
  | some w => .str (dirW b w)
  | none => .non
def hasP (b : Bool) (R O : Rule) (q : Bool × Bool) (w : List Char) : Bool := decide (endP b R O w = q)
theorem cmp_ends {x y q1 q2 : Bool} {S : Store} : cmpD .eq (.tup [.bl x, .bl y]) (.tup [.bl q1, .bl q2]) S = .ok (.bl (decide ((x, y) = (q1, q2))), S) := by
  cases x <;> cases y <;> cases q1 <;> cases q2 <;> rfl
def wwB : List Z.S := [.ite (.cmp .eq (.meth "Pair" "ended" "Pair.ended" (.var 0) [.var 2]) (.var 1)) [.ite (.cmp .eq (.fld "Pair" (.var 0) "side") (.con (.str ['r', 'i', 'g', 'h', 't']))) [.ret (.rev (.var 3))] [],
      .ret (.var 3)] []]
theorem c_Pair_word_with_at : c_Pair_word_with = ⟨2, 4, [.fo [2, 3] false .sq [.meth "Pair" "rows" "Pair.rows" (.var 0) []] wwB,
    .ret (.con .non)]⟩ := rfl
def WayD (ss : List Char) (b : Bool) (R O : Rule) (q : Bool × Bool) (d : D) : Prop := ∃ es, BF ss (kP b R O) es.length es ∧ es = esB ss (kP b R O) es.length ∧ d = ansD b (es.find? (hasP b R O q))
theorem WayD.one {ss : List Char} {b : Bool} {R O : Rule} {q : Bool × Bool} {d e : D} (h : WayD ss b R O q d) (g : WayD ss b R O q e) : d = e := by
  obtain ⟨es, _, h1, rfl⟩ := h
  obtain ⟨fs, _, g1, rfl⟩ := g
  rw [esB_one h1 g1]
theorem e_pwith {k m : Nat} {S : Store} {ss : List Char} {b : Bool} {R O : Rule} (q : Bool × Bool) (pa : PairAt S m ss b R O) (pr : PR ss b R O) (h4 : ss.length ≤ 4) :
    Ok (callF pg (k + 8) "Pair.word_with" [.ref m, .tup [.bl q.1, .bl q.2]] S) fun p => WayD ss b R O q p.1 ∧ Gr S p.2 := by
  have hf := fn_c_Pair_word_with
  rw [c_Pair_word_with_at] at hf
  refine call_ok (ρ := [some (.ref m), some (.tup [.bl q.1, .bl q.2]), none, none]) hf rfl rfl (ss_cons ?_)
  obtain ⟨⟨v1, S1⟩, e1, m1, es, hv1, hm1, g1, bf, hes⟩ := e_prows (k := k) pa pr h4
  simp only at hv1 hm1
  subst hv1
  replace g1 : Gr S S1 := g1
  have ev : evEs (cx (k + 7)) [.meth "Pair" "rows" "Pair.rows" (.var 0) []] [some (.ref m), some (.tup [.bl q.1, .bl q.2]), none, none] S = .ok ([.ref m1], S1) := by (wp_walk using w_stp, pa.m_rows, e1)
  refine fo_rf ev hm1 (forR_go (fun i ρ S' => Gr S1 S' ∧ (∀ (j : Nat) y, j < i → es[j]? = some y → hasP b R O q y = false) ∧ ∃ x2 x3, ρ = [some (.ref m), some (.tup [.bl q.1, .bl q.2]), x2, x3]) ?_ ?_ _ 0 _ _ (by omega) hm1 ⟨.refl, fun j y h => absurd h (Nat.not_lt_zero _), _, _, rfl⟩)
  · rintro i d _ S' hd ⟨g2, hno, x2, x3, rfl⟩ hl
    rw [List.getElem?_map] at hd
    obtain ⟨w, hw, rfl⟩ := Option.map_eq_some_iff.mp hd
    have hov := bf.ov _ (List.mem_of_getElem? hw)
    rw [show bindG [2, 3] false (entP b R O w) [some (.ref m), some (.tup [.bl q.1, .bl q.2]), x2, x3] = .ok [some (.ref m), some (.tup [.bl q.1, .bl q.2]), some (pairK (kP b R O w)), some (.str w)] from rfl, w_okb]
    unfold wwB
    have pa2 := pa.gr (g1.trans g2)
    obtain ⟨⟨v3, S3⟩, e3, hv3, g3⟩ := e_pended (k := k + 1) pa2 pr hov
    simp only at hv3
    subst hv3
    replace g3 : Gr S' S3 := g3
    refine ss_cons (ite_ok ?_)
    (wp_walk using w_stp, pa2.m_ended, e3, cmp_ends)
    have hp : decide (((endP b R O w).1, (endP b R O w).2) = (q.1, q.2)) = hasP b R O q w := rfl
    rw [hp]
    cases hh : hasP b R O q w with
    | true =>
      refine i_t (ss_cons (ite_ok ?_))
      have hfi : es.find? (hasP b R O q) = some w := find_at hw hh hno
      have pa3 := pa2.gr g3
      (wp_walk using w_stp, pa3.side)
      cases b with
      | true =>
        (wp_walk using w_stp, sideS)
        refine iff_ (fun _ => ss_cons ?_) (fun e => by cases e)
        (wp_walk using w_stp)
        exact nrt (nrt (nrt (.inr ⟨_, rfl, nrt (rt ⟨⟨es, bf, hes, by rw [hfi]; rfl⟩, (g1.trans g2).trans g3⟩)⟩)))
      | false =>
        (wp_walk using w_stp, sideS)
        refine iff_ (fun e => by cases e) (fun _ => ss_nil (nx (ss_cons ?_)))
        (wp_walk using w_stp)
        exact nrt (nrt (.inr ⟨_, rfl, nrt (rt ⟨⟨es, bf, hes, by rw [hfi]; rfl⟩, (g1.trans g2).trans g3⟩)⟩))
    | false =>
      refine i_f (ss_nil (nx (ss_nil (.inl ⟨.inl rfl, g3.get hl, g2.trans g3, fun j y hj hy => ?_, _, _, rfl⟩))))
      rcases Nat.lt_or_ge j i with z | z
      · exact hno j y z hy
      · have : j = i := by omega
        subst this
        rw [hw] at hy
        cases hy
        exact hh
  · rintro _ S' ⟨g2, hno, x2, x3, rfl⟩
    rw [List.length_map] at hno
    refine nx (ss_cons ?_)
    (wp_walk using w_stp)
    exact nrt (rt ⟨⟨es, bf, hes, by rw [find_no fun j y hy => hno j y (List.getElem?_eq_some_iff.mp hy).1 hy]; rfl⟩, g1.trans g2⟩)
theorem way_ok {k : Nat} {S : Store} {st : Stk} {ss : List Char} {b : Bool} {R O : Rule} (hst : st.map (·.1) = ss) (h4 : ss.length ≤ 4) (pr : PR ss b R O) (f2 : Few ss (rbs b [R, O])) (f1 : Few ss (rbs b [O])) (q : Bool × Bool) {x y z u : E} {ρ : Env}
    (ex : evEs (cx (k + 8)) [x, y, z, u] ρ S = .ok ([stockD st, .str (sideS b), ruleD R, ruleD O], S)) :
    Ok (evE (cx (k + 8)) (.meth "Pair" "word_with" "Pair.word_with" (.new "Pair" "Pair.__init__" [x, y, z, u]) [.tup [.con (.bl q.1), .con (.bl q.2)]]) ρ S) fun p => WayD ss b R O q p.1 ∧ Gr S p.2 := by
  have hin : (S ++ [Z.O.ins "Pair" []])[S.length]? = some (.ins "Pair" []) := by simp
  obtain ⟨⟨v1, S1⟩, e1, hv1, g1, pa⟩ := e_pinit (k := k) (S0 := S) (S := S ++ [Z.O.ins "Pair" []]) hst h4 pr f2 f1 Gr.push (Nat.le_refl _) hin
  simp only at hv1
  subst hv1
  replace g1 : Gr S S1 := g1
  replace pa : PairAt S1 S.length ss b R O := pa
  obtain ⟨⟨v2, S2⟩, e2, hv2, g2⟩ := e_pwith (k := k) q pa pr h4
  refine ⟨(v2, S2), ?_, hv2, g1.trans g2⟩
  simp only [w_meth, w_new, ex, w_okb, e1, w_noneD, pa.m_with, if_true, w_cons, w_nil, w_tup, w_con, e2]
theorem e_makes_way {k : Nat} {S : Store} {st : Stk} {ss : List Char} {b : Bool} {R O : Rule} (hst : st.map (·.1) = ss) (h4 : ss.length ≤ 4) (pr : PR ss b R O) (f2 : Few ss (rbs b [R, O])) (f1 : Few ss (rbs b [O])) :
    Ok (callF pg (k + 9) "makes_way" [stockD st, .str (sideS b), ruleD R, ruleD O] S) fun p => WayD ss b R O (true, false) p.1 ∧ Gr S p.2 := by
  refine call_ok (ρ := [some (stockD st), some (.str (sideS b)), some (ruleD R), some (ruleD O)]) fn_c_makes_way rfl rfl (ss_cons ?_)
  rw [w_ret]
  refine Ok.bind (way_ok (k := k) hst h4 pr f2 f1 (true, false) (by (wp_walk using w_stp))) ?_
  rintro ⟨v, S1⟩ ⟨h, g⟩
  rw [Ok.ok_iff]
  exact nrt (rt ⟨h, g⟩)
theorem e_takes_from {k : Nat} {S : Store} {st : Stk} {ss : List Char} {b : Bool} {R O : Rule} (hst : st.map (·.1) = ss) (h4 : ss.length ≤ 4) (pr : PR ss b R O) (f2 : Few ss (rbs b [R, O])) (f1 : Few ss (rbs b [O])) :
    Ok (callF pg (k + 9) "takes_from" [stockD st, .str (sideS b), ruleD R, ruleD O] S) fun p => WayD ss b R O (false, true) p.1 ∧ Gr S p.2 := by
  refine call_ok (ρ := [some (stockD st), some (.str (sideS b)), some (ruleD R), some (ruleD O)]) fn_c_takes_from rfl rfl (ss_cons ?_)
  rw [w_ret]
  refine Ok.bind (way_ok (k := k) hst h4 pr f2 f1 (false, true) (by (wp_walk using w_stp))) ?_
  rintro ⟨v, S1⟩ ⟨h, g⟩
  rw [Ok.ok_iff]
  exact nrt (rt ⟨h, g⟩)
end Z

set_option Elab.async false
set_option linter.all false
set_option maxRecDepth 100000
set_option maxHeartbeats 4000000
namespace Z
open PySem L2 PySem.Spec PyProof.Rows
/-! K4: a rule read on by the law, with whether it moves -/
def goB : List Z.S := [.asg (.nm 8) (.and [.var 6, .call "_law_fits" [.ix (.var 0) (.con (.int 3)), .var 5]]),
      .ite (.cmp .eq (.ix (.ix (.ix (.var 0) (.con (.int 1))) (.con (.int 0))) (.con (.int 0))) (.con (.str []))) [.asg (.nm 3) (.bin .add (.bin .add (.var 3) (.var 7)) (.bin .mul (.ix (.ix (.ix (.var 0) (.con (.int 1))) (.con (.int 0))) (.con (.int 1))) (.blt false .int [.var 8]))),
      .asg (.nm 4) (.or [.var 4, .var 8]),
      .asg (.nm 6) (.call "_law_fits" [.ix (.var 0) (.con (.int 2)), .var 5])] [.ite (.cmp .ne (.var 7) (.con (.str []))) [.asg (.nm 9) (.var 7),
      .ite (.var 8) [.asg (.nm 9) (.mth .get2 (.blt false .dict [.ix (.var 0) (.con (.int 1))]) [.var 7, .var 7])] [],
      .asg (.nm 4) (.or [.var 4, .cmp .ne (.var 9) (.var 7)]),
      .asg (.nm 3) (.bin .add (.var 3) (.var 9)),
      .ite (.cmp .eq (.ix (.var 0) (.con (.int 0))) (.con (.str ['o', 'n', 'c', 'e']))) [.asg (.nm 6) (.call "_law_fits" [.ix (.var 0) (.con (.int 2)), .var 7])] [.ite (.cmp .ne (.var 9) (.con (.str []))) [.asg (.nm 6) (.call "_law_fits" [.ix (.var 0) (.con (.int 2)), .var 9])] []]] []],
      .asg (.nm 7) (.var 5)]
end Z

set_option Elab.async false
set_option linter.all false
set_option maxRecDepth 100000
set_option maxHeartbeats 1000000
namespace Z
open PySem L2 PySem.Spec PyProof.Rows
/-! K5: two rules' rows by the law -/
def tnR (b : Bool) (R : Rule) : Rule := if b then turnR R else R
theorem rbs_1 {b : Bool} {O : Rule} : rbs b [O] = [tnR b O] := by cases b <;> rfl
theorem gw_tn {b : Bool} {R : Rule} (h : GW R) : GW (tnR b R) := by
  have := gw_rbs (b := b) (Rs := [R]) (fun Q hQ => by rw [List.mem_singleton.mp hQ]; exact h)
  exact this _ (by rw [rbs_1]; simp)
theorem ne_tn {b : Bool} {R : Rule} (h : ∀ p ∈ R.ch, p.2 ≠ p.1) : ∀ p ∈ (tnR b R).ch, p.2 ≠ p.1 := by cases b <;> exact h
abbrev LR := St1 × St1 × St1 × Bool × Bool
def rowL (x : LR) : D := .tup [stdD x.1, stdD x.2.1, stdD x.2.2.1, .bl x.2.2.2.1, .bl x.2.2.2.2]
def onL (R O : Rule) (x : LR) (sg en : List Char) : LR := ((readsP R x.1 sg).1, (readsP O x.2.1 ((readsP R x.1 sg).2.1 ++ en)).1, (readsP O x.2.2.1 sg).1, (x.2.2.2.1 || (readsP O x.2.1 ((readsP R x.1 sg).2.1 ++ en)).2.2), (x.2.2.2.2 || (readsP O x.2.2.1 sg).2.2))
def wL (R O : Rule) (w : List Char) : LR := onL R O (initR R, initR O, initR O, false, false) w []
/-! keys -/
def kyL (x : LR) : NestedKey := .tup [ks1 x.1, ks1 x.2.1, ks1 x.2.2.1, nB x.2.2.2.1, nB x.2.2.2.2]
/-! a row read on -/
def rlsD (R O : Rule) : D := .lst [ruleD R, ruleD O]
structure RO (R O : Rule) : Prop where
  r : GW R
  o : GW O
  nr : ∀ p ∈ R.ch, p.2 ≠ p.1
  no : ∀ p ∈ O.ch, p.2 ≠ p.1
structure OkL (x : LR) : Prop where
  a : Std1 x.1
  b : Std1 x.2.1
  c : Std1 x.2.2.1
end Z

set_option Elab.async false
set_option linter.all false
set_option maxRecDepth 100000
set_option maxHeartbeats 1000000
namespace Z
open PySem L2 PySem.Spec PyProof.Rows
/-! K6: the fewest sounds, level by level, by the law -/
theorem LA.set {S : Store} {v : D} {ds : List D} {m : Nat} {o : Z.O} (la : LA S v ds) (h : ∀ n, v = .ref n → n ≠ m) : LA (S.set m o) v ds := by
  rcases la with rfl | ⟨n, rfl, hn⟩
  · exact .inl rfl
  · exact .inr ⟨n, rfl, set_other hn (Ne.symm (h n rfl))⟩
theorem hasP_cong {b : Bool} {R O : Rule} {q : Bool × Bool} {v w : List Char} (h : kP b R O v = kP b R O w) : hasP b R O q v = hasP b R O q w := by
  unfold hasP
  rw [endP_cong h]
structure PL (ss : List Char) (b : Bool) (R O : Rule) : Prop extends PR ss b R O where
  nr : ∀ p ∈ R.ch, p.2 ≠ p.1
  no : ∀ p ∈ O.ch, p.2 ≠ p.1
theorem PL.ro {ss : List Char} {b : Bool} {R O : Rule} (h : PL ss b R O) : RO (tnR b R) (tnR b O) := ⟨gw_tn (h.gw R (by simp)), gw_tn (h.gw O (by simp)), ne_tn h.nr, ne_tn h.no⟩
def lrW (b : Bool) (R O : Rule) (w : List Char) : LR := wL (tnR b R) (tnR b O) w
structure LS (S0 S : Store) (mk mf : Nat) (b : Bool) (R O : Rule) (es : List (List Char)) (l0 : Nat) : Prop where
  gr : Gr S0 S
  lk : S0.length ≤ mk
  lf : S0.length ≤ mf
  f : S[mf]? = some (.lst (((es.drop l0).map (lrW b R O)).map rowL))
  d : ∃ ks vs, S[mk]? = some (.dcn ks vs) ∧ ks.length ≤ es.length ∧ ∀ x, inN (kyL x) ks = true ↔ ∃ e ∈ es, lrW b R O e = x
theorem LS.more {S0 S S' : Store} {mk mf : Nat} {b : Bool} {R O : Rule} {es : List (List Char)} {l0 : Nat} (h : LS S0 S mk mf b R O es l0) (g : Gr S S') : LS S0 S' mk mf b R O es l0 := by
  obtain ⟨ks, vs, e1, e2, e3⟩ := h.d
  exact ⟨h.gr.trans g, h.lk, h.lf, g.get h.f, ks, vs, g.get e1, e2, e3⟩
def fwB : List Z.S := [.asg (.nm 14) (.call "_law_row_on" [.var 5, .var 11, .var 13, .con (.str [])]),
      .ite (.cmp .notIn (.var 14) (.var 7)) [.asg (.sub (.var 7) (.var 14)) (.con (.bl true)),
      .exp (.mth .append (.var 10) [.var 14])] []]
end Z

set_option Elab.async false
set_option linter.all false
set_option maxRecDepth 100000
set_option maxHeartbeats 1000000
namespace Z
open PySem L2 PySem.Spec PyProof.Rows
/-! K7: the fewest sounds, by the law -/
def fwR : List Z.S := [.ite (.cmp .eq (.sl false (.call "_law_row_on" [.var 5, .var 11, .con (.str ['#']), .con (.str ['#'])]) true (.con (.int 3)) false .no) (.var 4)) [.ret (.var 9)] [],
      .fo [13] true .sq [.var 3] fwB]
def fwW : List Z.S := [.asg (.nm 10) (.lst true []),
      .fo [11] true .sq [.var 8] fwR,
      .asg (.nm 8) (.var 10),
      .asg (.nm 9) (.bin .add (.var 9) (.con (.int 1)))]
def fwA : List Z.S := [.asg (.nm 5) (.lst false [.var 1, .var 2]),
    .ite (.cmp .eq (.var 0) (.con (.str ['r', 'i', 'g', 'h', 't']))) [.asg (.nm 5) (.lst false [.call "_law_turned" [.var 1], .call "_law_turned" [.var 2]])] [],
    .asg (.nm 6) (.comp false [12] [12] true .sq [.var 5] (.con (.bl true)) (.tup [.call "_law_fits" [.ix (.var 12) (.con (.int 2)), .con (.str ['#'])], .con (.str [])])),
    .asg (.nm 7) (.dcn [.tup [.ix (.var 6) (.con (.int 0)), .ix (.var 6) (.con (.int 1)), .ix (.var 6) (.con (.int 1)), .con (.bl false), .con (.bl false)]] [.con (.bl true)]),
    .asg (.nm 8) (.blt false .list [.var 7]),
    .asg (.nm 9) (.con (.int 0))]
def LeastD (ss : List Char) (b : Bool) (R O : Rule) (q : Bool × Bool) (d : D) : Prop := (d = .non ∧ ∀ w, Over ss w → hasP b R O q w = false) ∨ ∃ x : List Char, d = .int (x.length : Int) ∧ Over ss x ∧ hasP b R O q x = true ∧ ∀ w, Over ss w → w.length < x.length → hasP b R O q w = false
end Z

set_option Elab.async false
set_option linter.all false
set_option maxRecDepth 100000
set_option maxHeartbeats 1000000
namespace Z
open PySem L2 PySem.Spec PyProof.Rows
/-! N0: drawn rules -/
theorem ne_gd {ss : List Char} {R : Rule} (g : GoodR ss R) : ∀ p ∈ R.ch, p.2 ≠ p.1 := by
  intro p hp
  rcases g.ch with ⟨c, hc, e⟩ | ⟨_, _, _, h4⟩
  · rw [e] at hp
    rw [List.mem_singleton.mp hp]
    exact fun z => nomatch z
  · exact fun z => (h4 p hp).2.1 z.symm
theorem gr_rb {ss : List Char} {b : Bool} {Rs : List Rule} (h : ∀ R ∈ Rs, GR ss R) : ∀ R ∈ rbs b Rs, GR ss R := by
  unfold rbs
  cases b with
  | false => exact h
  | true =>
    intro R hR
    obtain ⟨Q, hQ, rfl⟩ := List.mem_map.mp hR
    exact ⟨(h Q hQ).1.turn, (h Q hQ).2⟩
end Z

set_option Elab.async false
set_option linter.all false
set_option maxRecDepth 100000
set_option maxHeartbeats 1000000
namespace Z
open PySem L2 PySem.Spec PyProof.Rows
/-! V1: what is told of two rules, in words -/
theorem dir_dir (b : Bool) (w : List Char) : dirW b (dirW b w) = w := by cases b <;> simp [dirW]
theorem dir_len {b : Bool} {w : List Char} : (dirW b w).length = w.length := by cases b <;> simp [dirW]
theorem end_acts {b : Bool} {R O : Rule} {w : List Char} (fR : Fine R) (fO : Fine O) (nR : ∀ p ∈ R.ch, p.2 ≠ p.1) (nO : ∀ p ∈ O.ch, p.2 ≠ p.1) :
    endP b R O (dirW b w) = (!decide (chgS b R w = chgS b O (chgS b R w)), !decide (w = chgS b O w)) := by
  unfold endP
  have f2 : ∀ Q ∈ [R, O], Fine Q := fun Q hQ => by
    rcases List.mem_cons.mp hQ with rfl | hQ
    · exact fR
    · rw [List.mem_singleton.mp hQ]; exact fO
  have n2 : ∀ Q ∈ [R, O], ∀ p ∈ Q.ch, p.2 ≠ p.1 := fun Q hQ => by
    rcases List.mem_cons.mp hQ with rfl | hQ
    · exact nR
    · rw [List.mem_singleton.mp hQ]; exact nO
  have f1 : ∀ Q ∈ [O], Fine Q := fun Q hQ => by rw [List.mem_singleton.mp hQ]; exact fO
  have n1 : ∀ Q ∈ [O], ∀ p ∈ Q.ch, p.2 ≠ p.1 := fun Q hQ => by rw [List.mem_singleton.mp hQ]; exact nO
  have a := acts_walk b [R, O] w 1 f2 n2 (show 1 < 2 by decide)
  have c := acts_walk b [O] w 0 f1 n1 (show 0 < 1 by decide)
  unfold whF
  rw [a, c]
  rfl
theorem pl_of {ss : List Char} {b : Bool} {R O : Rule} (gR : GoodR ss R) (gO : GoodR ss O) : PL ss b R O :=
  ⟨⟨fun Q hQ => by
      rcases List.mem_cons.mp hQ with rfl | hQ
      · exact gw_of gR
      · rw [List.mem_singleton.mp hQ]; exact gw_of gO, gr_rb fun Q hQ => by
      rcases List.mem_cons.mp hQ with rfl | hQ
      · exact gr_of gR
      · rw [List.mem_singleton.mp hQ]; exact gr_of gO, gr_rb fun Q hQ => by rw [List.mem_singleton.mp hQ]; exact gr_of gO⟩, ne_gd gR, ne_gd gO⟩
end Z

set_option Elab.async false
set_option linter.all false
set_option maxRecDepth 100000
set_option maxHeartbeats 1000000
namespace Z
open PySem L2 PySem.Spec PyProof.Rows
/-! V2: plain rules -/
def plR (how : List Char) (a : Char) (t : List Char) : Rule := ⟨how, [([a], t)], none, none⟩
def sb (a : Char) (t : List Char) (x : Char) : List Char := if x = a then t else [x]
theorem step_pl {a p c z : Char} {t : List Char} : stepC [([a], t)] none none p c z = sb a t c := by
  unfold stepC sb fitB
  by_cases h : c = a
  · subst h
    simp [look]
  · simp [h, Ne.symm h]
theorem repO_pl {a : Char} {t : List Char} : ∀ (w : List Char) (p z : Char), repO [([a], t)] none none p w z = w.flatMap (sb a t)
  | [], _, _ => rfl
  | c :: w, p, z => by rw [repO, step_pl, repO_pl w c z, List.flatMap_cons]
theorem chgL_pl {how : List Char} {a : Char} {t w : List Char} : chgL (plR how a t) w = w.flatMap (sb a t) := by
  have hp : isPut (plR how a t) = false := by simp [isPut, plR]
  unfold chgL
  rw [hp, if_neg Bool.false_ne_true]
  show repG _ [([a], t)] none none '#' '#' w = _
  rw [repG_free, repO_pl]
theorem fm_rev {f : Char → List Char} (h : ∀ x, (f x).reverse = f x) : ∀ w : List Char, (w.reverse.flatMap f).reverse = w.flatMap f
  | [] => rfl
  | x :: w => by
    rw [List.reverse_cons, List.flatMap_append, List.reverse_append, fm_rev h w, List.flatMap_cons, List.flatMap_cons, List.flatMap_nil, List.append_nil, h]
theorem sb_len {a : Char} {t : List Char} (ht : t.length ≤ 1) (x : Char) : (sb a t x).length ≤ 1 := by
  unfold sb
  split
  · exact ht
  · exact Nat.le_refl _
theorem chgS_pl {b : Bool} {how : List Char} {a : Char} {t w : List Char} (ht : t.length ≤ 1) : chgS b (plR how a t) w = w.flatMap (sb a t) := by
  cases b with
  | false => exact chgL_pl
  | true =>
    show (chgL (turnR (plR how a t)) w.reverse).reverse = _
    rw [show turnR (plR how a t) = plR how a t from rfl, chgL_pl]
    exact fm_rev (fun x => rev_le1 (sb_len ht x)) w
theorem fm_len1 {f : Char → List Char} (h : ∀ x, (f x).length ≤ 1) : ∀ w : List Char, (w.flatMap f).length ≤ w.length
  | [] => Nat.le_refl _
  | x :: w => by
    rw [List.flatMap_cons, List.length_append, List.length_cons]
    have := h x
    have := fm_len1 h w
    omega
theorem fm_same {c : Char} {t : List Char} (ht : t.length ≤ 1) (hn : t ≠ [c]) : ∀ w : List Char, (w = w.flatMap (sb c t)) ↔ c ∉ w
  | [] => by simp
  | x :: w => by
    have ih := fm_same ht hn w
    have hl := fm_len1 (sb_len (a := c) ht) w
    rw [List.flatMap_cons]
    by_cases h : x = c
    · subst h
      have e : sb x t x = t := by unfold sb; rw [if_pos rfl]
      rw [e]
      constructor
      · intro q
        exfalso
        match t, ht, hn with
        | [], _, _ =>
          have := congrArg List.length q
          rw [List.nil_append, List.length_cons] at this
          omega
        | [y], _, hn =>
          injection q with q1 q2
          exact hn (by rw [q1])
      · intro q
        exact absurd List.mem_cons_self q
    · have e : sb c t x = [x] := by unfold sb; rw [if_neg h]
      rw [e]
      simp only [List.cons_append, List.nil_append, List.cons.injEq, true_and, List.mem_cons, not_or]
      rw [ih]
      exact ⟨fun q => ⟨fun z => h z.symm, q⟩, fun q => q.2⟩
theorem mem_fm {a c : Char} {t w : List Char} : c ∈ w.flatMap (sb a t) ↔ (c ≠ a ∧ c ∈ w) ∨ (c ∈ t ∧ a ∈ w) := by
  rw [List.mem_flatMap]
  constructor
  · rintro ⟨x, hx, h⟩
    unfold sb at h
    split at h
    · rename_i e
      subst e
      exact .inr ⟨h, hx⟩
    · rename_i e
      rw [List.mem_singleton.mp h]
      exact .inl ⟨e, hx⟩
  · rintro (⟨h1, h2⟩ | ⟨h1, h2⟩)
    · exact ⟨c, h2, by unfold sb; rw [if_neg h1]; simp⟩
    · exact ⟨a, h2, by unfold sb; rw [if_pos rfl]; exact h1⟩
theorem le1_mem {c : Char} {t : List Char} (ht : t.length ≤ 1) : c ∈ t ↔ t = [c] := by
  match t, ht with
  | [], _ => simp
  | [y], _ => simp [eq_comm]
structure P2 (ss : List Char) (a c : Char) (t u : List Char) : Prop where
  ma : a ∈ ss
  mc : c ∈ ss
  t1 : t.length ≤ 1
  u1 : u.length ≤ 1
  ta : t ≠ [a]
  uc : u ≠ [c]
theorem end_pl {b : Bool} {ss hw ho : List Char} {a c : Char} {t u w : List Char} (p : P2 ss a c t u) (g1 : GoodR ss (plR hw a t)) (g2 : GoodR ss (plR ho c u)) :
    endP b (plR hw a t) (plR ho c u) (dirW b w) = (decide ((c ≠ a ∧ c ∈ w) ∨ (t = [c] ∧ a ∈ w)), decide (c ∈ w)) := by
  rw [end_acts (fine_of g1.ch) (fine_of g2.ch) (ne_gd g1) (ne_gd g2), chgS_pl p.t1, chgS_pl p.u1, chgS_pl p.u1]
  have h1 := fm_same p.u1 p.uc (w.flatMap (sb a t))
  have h2 := fm_same p.u1 p.uc w
  rw [mem_fm, le1_mem p.t1] at h1
  simp only [Prod.mk.injEq]
  constructor
  · rw [Bool.eq_iff_iff]
    simp only [Bool.not_eq_true', decide_eq_false_iff_not, decide_eq_true_eq]
    rw [h1]
    exact Classical.not_not
  · rw [Bool.eq_iff_iff]
    simp only [Bool.not_eq_true', decide_eq_false_iff_not, decide_eq_true_eq]
    rw [h2]
    exact Classical.not_not
theorem way_none {ss : List Char} {b : Bool} {R O : Rule} {q : Bool × Bool} {d : D} (h : WayD ss b R O q d) (hn : ∀ w, endP b R O (dirW b w) ≠ q) : d = .non := by
  obtain ⟨es, bf, _, rfl⟩ := h
  rcases bf.first (P := hasP b R O q) kP_cong (fun _ _ => hasP_cong) with ⟨h1, _⟩ | ⟨x, _, _, h3, _⟩
  · rw [h1]
    rfl
  · have h3 : endP b R O x = q := of_decide_eq_true h3
    have := hn (dirW b x)
    rw [dir_dir] at this
    exact absurd h3 this
theorem way_one {ss : List Char} {b : Bool} {R O : Rule} {q : Bool × Bool} {d : D} {a : Char} (h : WayD ss b R O q d) (ha : a ∈ ss) (h1 : endP b R O (dirW b [a]) = q) (h2 : ∀ w, endP b R O (dirW b w) = q → a ∈ w) : d = .str [a] := by
  obtain ⟨es, bf, _, rfl⟩ := h
  have da : dirW b [a] = [a] := by cases b <;> rfl
  rw [da] at h1
  have h1' : hasP b R O q [a] = true := decide_eq_true h1
  rcases bf.first (P := hasP b R O q) kP_cong (fun _ _ => hasP_cong) with ⟨_, g⟩ | ⟨x, e1, g2, g3, g5⟩
  · rw [g [a] (Over.one ha)] at h1'
    cases h1'
  · rw [e1]
    have hx : endP b R O x = q := of_decide_eq_true g3
    have hm := h2 (dirW b x) (by rw [dir_dir]; exact hx)
    have hxl : x.length ≤ 1 := by
      rcases Nat.lt_or_ge 1 x.length with z | z
      · rw [g5 [a] (Over.one ha) z] at h1'
        cases h1'
      · exact z
    have hd : (dirW b x).length ≤ 1 := by rw [dir_len]; exact hxl
    have := (le1_mem hd).mp hm
    show D.str (dirW b x) = _
    rw [this]
theorem plain_way {ss : List Char} {b : Bool} {hw ho : List Char} {a c : Char} {t u : List Char} {d : D} (p : P2 ss a c t u) (g1 : GoodR ss (plR hw a t)) (g2 : GoodR ss (plR ho c u)) (h : WayD ss b (plR hw a t) (plR ho c u) (true, false) d) : d = if t = [c] then .str [a] else .non := by
  by_cases e : t = [c]
  · rw [if_pos e]
    have hca : c ≠ a := fun z => p.ta (by rw [e, z])
    refine way_one h p.ma ?_ fun w hq => ?_
    · rw [end_pl p g1 g2]
      simp [e, hca]
    · rw [end_pl p g1 g2] at hq
      simp only [Prod.mk.injEq, decide_eq_true_eq, decide_eq_false_iff_not] at hq
      rcases hq.1 with z | z
      · exact absurd z.2 hq.2
      · exact z.2
  · rw [if_neg e]
    refine way_none h fun w hq => ?_
    rw [end_pl p g1 g2] at hq
    simp only [Prod.mk.injEq, decide_eq_true_eq, decide_eq_false_iff_not] at hq
    rcases hq.1 with z | z
    · exact hq.2 z.2
    · exact e z.1
theorem plain_take {ss : List Char} {b : Bool} {hw ho : List Char} {a c : Char} {t u : List Char} {d : D} (p : P2 ss a c t u) (g1 : GoodR ss (plR hw a t)) (g2 : GoodR ss (plR ho c u)) (h : WayD ss b (plR hw a t) (plR ho c u) (false, true) d) : d = if [a] = [c] then .str [a] else .non := by
  by_cases e : a = c
  · subst e
    rw [if_pos rfl]
    refine way_one h p.ma ?_ fun w hq => ?_
    · rw [end_pl p g1 g2]
      simp [p.ta]
    · rw [end_pl p g1 g2] at hq
      simp only [Prod.mk.injEq, decide_eq_true_eq] at hq
      exact hq.2
  · rw [if_neg (by simpa using e)]
    refine way_none h fun w hq => ?_
    rw [end_pl p g1 g2] at hq
    simp only [Prod.mk.injEq, decide_eq_true_eq, decide_eq_false_iff_not] at hq
    exact hq.1 (.inl ⟨fun z => e z.symm, hq.2⟩)
end Z

set_option Elab.async false
set_option linter.all false
set_option maxRecDepth 100000
set_option maxHeartbeats 1000000
namespace Z
open PySem L2 PySem.Spec PyProof.Rows
local macro_rules
  | `(tactic| wp_walk using w_stp) => `(tactic| simp only [w_okb, w_bb, w_var, w_con, w_glo, w_tup, w_lst, w_dct, w_bin, w_not, w_and, w_or, w_cmp, w_chain, w_ix, w_call, w_fld, w_new, w_meth, w_noneD, w_setf, w_blt, w_mth, w_comp, w_sl, w_rev, w_neg, w_nil, w_cons, w_and1, w_and2, w_or1, w_or2, w_asg, w_exp, w_ret, w_anm, w_asub, w_orv, w_dcn0, w_dcn1, w_whl, w_callv, w_wipe1, w_wipe2, Ok.ok_iff, subTy, List.getElem?_cons_zero, List.getElem?_cons_succ, List.set_cons_succ, List.set_cons_zero, if_true, Bool.false_eq_true, if_false, Option.map_some, Bool.not_true, Bool.not_false, Bool.true_or, Bool.or_true, Bool.false_or, Bool.or_false, Bool.true_and, Bool.and_true, Bool.false_and, Bool.and_false, eq_self, decide_true, decide_false, beq_self_eq_true, of_some, litD_f, litD_t, bin_add, bin_sub, bin_band, cmp_lti, cmp_lts, cmp_le, cmp_gt, cmp_ge, cmp_none, cmp_nnone, cmp_true, cmp_ntrue, ofB_some, cmp_in, cmp_nin, nonD_non, nonD_s, nonD_t, nonD_i, nonD_l, nonD_r, nonD_b, nonD_x, deref_s, deref_t, deref_l, deref_i, deref_b, deref_n, ok_s, ok_i, ok_b, ok_n, mem_s, flat_s, flat_i, flat_b, flat_n, ix_s, ix_t, ix_l, items_t, items_l, len_s, len_t2, len_t4, len_l, tuple_s, tuple_t, tuple_l, list_s, list_t, list_l, blt_max, blt_min, blt_all, blt_any, ty_s, ty_t, ty_l, ty_i, ty_b, ty_n, rec_join, rec_idx, rec_idxT, tupOnly_t, blt_int1, rec_idxLl, it_s, it_en, it_t, it_l, compI_sq, forI_sq, bind1, rev_s, rev_t, rev_l, blt_inrg, blt_ninrg, rec_upr, bind2, sl_t, sl_s, sl_l, part_i, eq_ss, eq_ii, eq_bb, eq_tn, eq_tc, eq_tc0, eq_t0c, in_nil, in_cons, in_strs, in_sgn, flat_map, all_true, cmp_eq_ii, cmp_eq_ss, cmp_eq_bb, cmp_ne_ii, cmp_ne_ss, bin_shrn, mem_strs, mem_strl, atI_0, atI_1, atI_2, atI_3])
  | `(tactic| wp_walk using w_stp, $[$ts:term],*) => `(tactic| simp only [w_okb, w_bb, w_var, w_con, w_glo, w_tup, w_lst, w_dct, w_bin, w_not, w_and, w_or, w_cmp, w_chain, w_ix, w_call, w_fld, w_new, w_meth, w_noneD, w_setf, w_blt, w_mth, w_comp, w_sl, w_rev, w_neg, w_nil, w_cons, w_and1, w_and2, w_or1, w_or2, w_asg, w_exp, w_ret, w_anm, w_asub, w_orv, w_dcn0, w_dcn1, w_whl, w_callv, w_wipe1, w_wipe2, Ok.ok_iff, subTy, List.getElem?_cons_zero, List.getElem?_cons_succ, List.set_cons_succ, List.set_cons_zero, if_true, Bool.false_eq_true, if_false, Option.map_some, Bool.not_true, Bool.not_false, Bool.true_or, Bool.or_true, Bool.false_or, Bool.or_false, Bool.true_and, Bool.and_true, Bool.false_and, Bool.and_false, eq_self, decide_true, decide_false, beq_self_eq_true, of_some, litD_f, litD_t, bin_add, bin_sub, bin_band, cmp_lti, cmp_lts, cmp_le, cmp_gt, cmp_ge, cmp_none, cmp_nnone, cmp_true, cmp_ntrue, ofB_some, cmp_in, cmp_nin, nonD_non, nonD_s, nonD_t, nonD_i, nonD_l, nonD_r, nonD_b, nonD_x, deref_s, deref_t, deref_l, deref_i, deref_b, deref_n, ok_s, ok_i, ok_b, ok_n, mem_s, flat_s, flat_i, flat_b, flat_n, ix_s, ix_t, ix_l, items_t, items_l, len_s, len_t2, len_t4, len_l, tuple_s, tuple_t, tuple_l, list_s, list_t, list_l, blt_max, blt_min, blt_all, blt_any, ty_s, ty_t, ty_l, ty_i, ty_b, ty_n, rec_join, rec_idx, rec_idxT, tupOnly_t, blt_int1, rec_idxLl, it_s, it_en, it_t, it_l, compI_sq, forI_sq, bind1, rev_s, rev_t, rev_l, blt_inrg, blt_ninrg, rec_upr, bind2, sl_t, sl_s, sl_l, part_i, eq_ss, eq_ii, eq_bb, eq_tn, eq_tc, eq_tc0, eq_t0c, in_nil, in_cons, in_strs, in_sgn, flat_map, all_true, cmp_eq_ii, cmp_eq_ss, cmp_eq_bb, cmp_ne_ii, cmp_ne_ss, bin_shrn, mem_strs, mem_strl, atI_0, atI_1, atI_2, atI_3, $[$ts:term],*])
/-! law k40: plain rules -/
theorem e_plain {k n : Nat} {S : Store} {ss : List Char} (h : Pk n S) (hs : 0 < ss.length) (h4 : ss.length ≤ 4) : Ok (callF pg (k + 2) "_law_plain" [.ref n, .str ss] S) fun p => ∃ (hw : List Char) (a : Char) (t : List Char), GoodR ss (plR hw a t) ∧ a ∈ ss ∧ t.length ≤ 1 ∧ t ≠ [a] ∧ p.1 = ruleD (plR hw a t) ∧ Fr1 n S p.2 := by
  refine call_ok (ρ := [some (.ref n), some (.str ss), none, none, none]) fn_c_law_plain rfl rfl (ss_cons ?_)
  obtain ⟨⟨v1, S1⟩, e1, r, h1, hv1, f1⟩ := e_take (k := k) (m := (ss.length : Int)) h (by omega) (by omega)
  simp only at hv1
  subst hv1
  replace f1 : Fr1 n S S1 := f1
  obtain ⟨c, hc, ec⟩ := atI_get (xs := ss) (r := r) (by omega)
  (wp_walk using w_stp, e1, ec)
  refine nx (ss_cons ?_)
  have ea : ∀ S : Store, binD .add (.lst (ss.map fun c => .str [c])) (.lst [.str []]) S = .ok (.lst ((sx ss).map .str), S) := fun S => by
    rw [addl_ok (by rw [List.length_map, List.length_singleton]; omega), sx, List.map_append, List.map_map]
    rfl
  (wp_walk using w_stp, ea)
  rw [compL_filter (p := fun x => !decide (x = [c])) (g := .str) fun x hx => ?_]
  · have hos : 0 < ((sx ss).filter fun x => !decide (x = [c])).length := by
      apply List.length_pos_of_mem (a := [])
      rw [List.mem_filter]
      exact ⟨by simp [sx], by simp⟩
    have hos2 : ((sx ss).filter fun x => !decide (x = [c])).length ≤ 5 := by
      have := List.length_filter_le (fun x => !decide (x = [c])) (sx ss)
      have e : (sx ss).length = ss.length + 1 := by simp [sx]
      omega
    have hm2 : ∀ b ∈ (sx ss).filter fun x => !decide (x = [c]), GoodP ss ([c], b) := fun b hb => by
      rw [List.mem_filter] at hb
      refine ⟨⟨c, hc, rfl⟩, fun e => ?_, ?_⟩
      · have e : [c] = b := e
        rw [← e] at hb
        simp at hb
      · have := hb.1
        unfold sx at this
        rcases List.mem_append.mp this with q | q
        · obtain ⟨c', q1, q2⟩ := List.mem_map.mp q
          exact .inr ⟨c', q1, q2.symm⟩
        · exact .inl (List.mem_singleton.mp q)
    generalize ((sx ss).filter fun x => !decide (x = [c])) = os at hos hos2 hm2 ⊢
    (wp_walk using w_stp)
    refine nx (ss_cons ?_)
    obtain ⟨⟨v4, S4⟩, e4, r4, h4', hv4, f4⟩ := e_take (k := k) (m := 2) f1.pk (by decide) (by decide)
    simp only at hv4
    subst hv4
    replace f4 : Fr1 n S1 S4 := f4
    obtain ⟨dd, hdd, ew⟩ := atI_get (xs := ways.map D.str) (r := r4) (by simp [ways]; omega)
    obtain ⟨w, hw, rfl⟩ := List.mem_map.mp hdd
    have ew : atI [D.str ['o', 'n', 'c', 'e'], D.str ['a', 'l', 'o', 'n', 'g']] (r4 : Int) = some (.str w) := ew
    obtain ⟨⟨v3, S3⟩, e3, r3, h3, hv3, f3⟩ := e_take (k := k) (m := (os.length : Int)) f4.pk (by omega) (by omega)
    simp only at hv3
    subst hv3
    replace f3 : Fr1 n S4 S3 := f3
    obtain ⟨d, hd, ed⟩ := atI_get (xs := os.map D.str) (r := r3) (by rw [List.length_map]; omega)
    obtain ⟨b, hb, rfl⟩ := List.mem_map.mp hd
    (wp_walk using w_stp, e4, ew, List.length_map, e3, ed)
    have gp := hm2 b hb
    refine nrt (rt ⟨w, c, b, ⟨hw, .inr ⟨by simp [plR], by simp [plR], by simp [plR, Rise], fun p hp => ?_⟩, (fun cs h => nomatch h), (fun cs h => nomatch h)⟩, hc, ?_, fun e => gp.2.1 e.symm, rfl, (f1.trans f4).trans f3⟩)
    · rw [List.mem_singleton.mp hp]
      exact gp
    · rcases gp.2.2 with q | ⟨x, _, q⟩
      · rw [show b = [] from q]; simp
      · rw [show b = [x] from q]; simp
  · by_cases e : x = [c]
    · (wp_walk using w_stp, e)
      try rfl
    · (wp_walk using w_stp, e)
      try rfl
def lw40B : List Z.S := [.asg (.nm 5) (.ix (.lst false [.con (.str ['l', 'e', 'f', 't']), .con (.str ['r', 'i', 'g', 'h', 't'])]) (.call "_law_take" [.var 1, .con (.int 2)])),
      .asg (.nm 6) (.call "_law_plain" [.var 1, .var 3]),
      .asg (.nm 7) (.call "_law_plain" [.var 1, .var 3]),
      .asg (.tp [.nm 9, .nm 10]) (.ix (.ix (.var 6) (.con (.int 1))) (.con (.int 0))),
      .asg (.nm 8) (.ix (.lst false [.con .non, .var 9]) (.blt false .int [.cmp .eq (.var 10) (.ix (.ix (.ix (.var 7) (.con (.int 1))) (.con (.int 0))) (.con (.int 0)))])),
      .ite (.cmp .ne (.call "makes_way" [.var 2, .var 5, .var 6, .var 7]) (.var 8)) [.ret (.con (.bl false))] [],
      .asg (.nm 8) (.ix (.lst false [.con .non, .var 9]) (.blt false .int [.cmp .eq (.var 9) (.ix (.ix (.ix (.var 7) (.con (.int 1))) (.con (.int 0))) (.con (.int 0)))])),
      .ite (.cmp .ne (.call "takes_from" [.var 2, .var 5, .var 6, .var 7]) (.var 8)) [.ret (.con (.bl false))] []]
theorem c_law_pt : c_law = ⟨1, 11, [.asg (.nm 1) (.call "_law_pack" [.var 0, .con (.int 0)]),
    .asg (.nm 2) (.call "_law_stock" [.var 1]),
    .asg (.nm 3) (.call "_law_sounds" [.var 2]),
    .fo [4] true .rng1 [.con (.int 6)] lw40B,
    .ret (.con (.bl true))]⟩ := rfl
theorem of_ib {x : D} {q : Bool} {S : Store} : R.of (atI [D.non, x] (if q = true then (1 : Int) else 0)) S = .ok (if q = true then x else .non, S) := by cases q <;> rfl
theorem ne_due {x : List Char} {q : Bool} {S : Store} : cmpD .ne (if q then D.str x else .non) (if q then D.str x else .non) S = .ok (.bl false, S) := by
  cases q with
  | true =>
    show cmpD .ne (.str x) (.str x) S = _
    have h : okD 60 (.str x) = true := rfl
    rw [cmp_ne, show deref S (.str x) = .str x from rfl, if_pos ⟨h, h⟩, eqD_refl 60 _ h]
    rfl
  | false => rfl
theorem lw40_turn {k n : Nat} {S : Store} {st : Stk} {x0 x4 x5 x6 x7 x8 x9 x10 : Option D} (hp : Pk n S) (h0 : 0 < (st.map (·.1)).length) (h4 : (st.map (·.1)).length ≤ 4) :
    Ok (evSs (cx (k + 9)) lw40B [x0, some (.ref n), some (stockD st), some (.str (st.map (·.1))), x4, x5, x6, x7, x8, x9, x10] S) fun p => (p.1 = .nx ∨ p.1 = .ct) ∧ Pk n p.2.2 ∧ ∃ x5 x6 x7 x8 x9 x10, p.2.1 = [x0, some (.ref n), some (stockD st), some (.str (st.map (·.1))), x4, x5, x6, x7, x8, x9, x10] := by
  have mny : ∀ m, m ≤ 4 → manyS m 2 ≤ 600 ∧ manyS m 1 ≤ 600 := by decide
  have fw : ∀ (b : Bool) (X Y : Rule), Few (st.map (·.1)) (rbs b [X, Y]) := fun b X Y => few_of (by rw [rbs_len]; exact (mny _ h4).1)
  have fv : ∀ (b : Bool) (X : Rule), Few (st.map (·.1)) (rbs b [X]) := fun b X => few_of (by rw [rbs_len]; exact (mny _ h4).2)
  unfold lw40B
  refine ss_cons ?_
  obtain ⟨⟨v3, S3⟩, e3, r, h1, hv3, f3⟩ := e_take (k := k + 8) (m := 2) hp (by decide) (by decide)
  simp only at hv3
  subst hv3
  replace f3 : Fr1 n S S3 := f3
  obtain ⟨b, eb⟩ : ∃ b, atI [D.str ['l', 'e', 'f', 't'], .str ['r', 'i', 'g', 'h', 't']] (r : Int) = some (.str (sideS b)) := by
    rw [atI_n]
    match r, h1 with
    | 0, _ => exact ⟨false, rfl⟩
    | 1, _ => exact ⟨true, rfl⟩
  (wp_walk using w_stp, e3, eb)
  refine nx (ss_cons ?_)
  obtain ⟨⟨v4, S4⟩, e4, hw, a, t, g1, ma, lt, nt, hv4, f4⟩ := e_plain (k := k + 7) f3.pk h0 h4
  simp only at hv4
  subst hv4
  replace f4 : Fr1 n S3 S4 := f4
  (wp_walk using w_stp, e4)
  refine nx (ss_cons ?_)
  obtain ⟨⟨v5, S5⟩, e5, ho, c, u, g2, mc, lu, nu, hv5, f5⟩ := e_plain (k := k + 7) f4.pk h0 h4
  simp only at hv5
  subst hv5
  replace f5 : Fr1 n S4 S5 := f5
  (wp_walk using w_stp, e5)
  refine nx (ss_cons ?_)
  have p2 : P2 (st.map (·.1)) a c t u := ⟨ma, mc, lt, lu, nt, nu⟩
  have pl := pl_of (b := b) g1 g2
  have i1 : ∀ (h : List Char) (a : Char) (t : List Char) (S : Store), ixD (ruleD (plR h a t)) (.int 1) S = .ok (.tup [.tup [.str [a], .str t]], S) := fun _ _ _ _ => rfl
  have i0 : ∀ (a : Char) (t : List Char) (S : Store), ixD (.tup [.tup [.str [a], .str t]]) (.int 0) S = .ok (.tup [.str [a], .str t], S) := fun _ _ _ => rfl
  have j0 : ∀ (a : Char) (t : List Char) (S : Store), ixD (.tup [.str [a], .str t]) (.int 0) S = .ok (.str [a], S) := fun _ _ _ => rfl
  (wp_walk using w_stp, i1, i0, as_t2)
  refine nx (ss_cons ?_)
  (wp_walk using w_stp, i1, i0, j0, of_ib)
  refine nx (ss_cons (ite_ok ?_))
  obtain ⟨⟨v6, S6⟩, e6, w6, g6⟩ := e_makes_way (k := k) (S := S5) (b := b) rfl h4 pl.toPR (fw b _ _) (fv b _)
  have w6 := plain_way p2 g1 g2 w6
  simp only at w6
  have w6 : v6 = if decide (t = [c]) then D.str [a] else .non := by
    rw [w6]
    by_cases e : t = [c] <;> simp [e]
  subst w6
  replace g6 : Gr S5 S6 := g6
  (wp_walk using w_stp, e6, ne_due)
  refine i_f (ss_nil (nx (ss_cons ?_)))
  (wp_walk using w_stp, i1, i0, j0, of_ib)
  refine nx (ss_cons (ite_ok ?_))
  obtain ⟨⟨v7, S7⟩, e7, w7, g7⟩ := e_takes_from (k := k) (S := S6) (b := b) rfl h4 pl.toPR (fw b _ _) (fv b _)
  have w7 := plain_take p2 g1 g2 w7
  simp only at w7
  have w7 : v7 = if decide ([a] = [c]) then D.str [a] else .non := by
    rw [w7]
    by_cases e : [a] = [c]
    · rw [if_pos e, decide_eq_true e, if_pos rfl]
    · rw [if_neg e, decide_eq_false e, if_neg Bool.false_ne_true]
  subst w7
  replace g7 : Gr S6 S7 := g7
  (wp_walk using w_stp, e7, ne_due)
  exact i_f (ss_nil (nx (ss_nil ⟨.inl rfl, (g6.trans g7).pk f5.pk, _, _, _, _, _, _, rfl⟩)))
def depth : Nat := 13
theorem law_true : ∀ ns : List Int, ns.length ≤ 63 → (∀ z ∈ ns, Builtin.Int.intBits z ≤ 1048576) → ∃ S', callF pg depth "law" [.lst (ns.map .int)] [] = .ok (.bl true, S') := by
  intro ns hl hb
  have hz : ∀ z ∈ ns, z.natAbs.log2 ≤ 1048576 := fun z h => bits_log (hb z h)
  suffices h : Ok (callF pg (3 + 10) "law" [.lst (ns.map .int)] []) fun p => p.1 = .bl true by
    obtain ⟨⟨v, S'⟩, e, q⟩ := h
    have q : v = .bl true := q
    subst q
    exact ⟨S', e⟩
  have hf := fn_c_law
  rw [c_law_pt] at hf
  refine call_ok (ρ := [some (.lst (ns.map .int)), none, none, none, none, none, none, none, none, none, none]) hf rfl rfl (ss_cons ?_)
  obtain ⟨⟨v1, S1⟩, e1, hv1, N, hS1⟩ := e_pack (k := 10) (S := []) (j := 0) (by omega) hz
  simp only at hv1 hS1
  subst hv1
  have e1 : callF pg 12 "_law_pack" [.lst (ns.map .int), .int 0] [] = .ok (.ref 0, S1) := e1
  have hp : Pk 0 S1 := ⟨N, by rw [hS1]; rfl⟩
  (wp_walk using w_stp, e1)
  refine nx (ss_cons ?_)
  obtain ⟨⟨v2, S2⟩, e2, st, gs, hv2, f2⟩ := e_stock (k := 10) hp
  simp only at hv2
  subst hv2
  replace f2 : Fr1 0 S1 S2 := f2
  obtain ⟨hr, h0, h4⟩ := rise_stk gs
  have hls : (st.map (·.1)).length = st.length := List.length_map _
  (wp_walk using w_stp, e2)
  refine nx (ss_cons ?_)
  (wp_walk using w_stp, e_sounds (k := 11) (st := st) (by omega))
  refine nx (ss_cons (fo_ok ?_))
  (wp_walk using w_stp)
  refine fo_ (it_r1i (by decide) (by decide)) ((forL_inv (fun pre ρ S' => Pk 0 S' ∧ ∃ x4 x5 x6 x7 x8 x9 x10, ρ = [some (.lst (ns.map .int)), some (.ref 0), some (stockD st), some (.str (st.map (·.1))), x4, x5, x6, x7, x8, x9, x10]) ⟨f2.pk, _, _, _, _, _, _, _, rfl⟩ ?_).mono ?_)
  · rintro pre d post _ S' e ⟨hp', x4, x5, x6, x7, x8, x9, x10, rfl⟩
    refine (lw40_turn (k := 3) hp' (by omega) (by omega)).mono ?_
    rintro ⟨s, ρ2, S8⟩ ⟨hs, hp8, y5, y6, y7, y8, y9, y10, hρ⟩
    exact ⟨hs, hp8, _, y5, y6, y7, y8, y9, y10, hρ⟩
  · rintro ⟨_, _, S8⟩ ⟨rfl, _, x4, x5, x6, x7, x8, x9, x10, rfl⟩
    refine nx (ss_cons ?_)
    (wp_walk using w_stp)
    exact nrt (rt rfl)
end Z

namespace Z
open PySem L2 PySem.Spec PyProof.Rows
theorem facts {K : PySem.W.Frag} {h : Heap} {mg : Str → Option Value} {f1 f2 f3 f4 f5 f6 f7 f8 f9 f10 f11 f12 f13 f14 f15 f16 f17 f18 f19 f20 f21 f22 f23 f24 f25 f26 f27 f28 f29 : Addr} {od1 an1 od2 an2 od3 an3 od4 an4 od5 an5 od6 an6 od7 an7 od8 an8 od9 an9 od10 an10 od11 an11 od12 an12 od13 an13 od14 an14 od15 an15 od16 an16 od17 an17 od18 an18 od19 an19 od20 an20 od21 an21 od22 an22 od23 an23 od24 an24 od25 an25 od26 an26 od27 an27 od28 an28 od29 an29 : Option Addr} {sl1 sl2 sl3 sl4 sl5 sl6 sl7 sl8 sl9 sl10 sl11 sl12 sl13 sl14 sl15 sl16 sl17 sl18 sl19 sl20 sl21 sl22 sl23 sl24 sl25 sl26 sl27 sl28 sl29 : Array (Option Value)} {oc1 kV1 dc1 pm1 cd1 ct1 oc2 kV2 dc2 pm2 cd2 ct2 oc3 kV3 dc3 pm3 cd3 ct3 oc4 kV4 dc4 pm4 cd4 ct4 oc5 kV5 dc5 pm5 cd5 ct5 oc6 kV6 dc6 pm6 cd6 ct6 oc7 kV7 dc7 pm7 cd7 ct7 oc8 kV8 dc8 pm8 cd8 ct8 oc9 kV9 dc9 pm9 cd9 ct9 oc10 kV10 dc10 pm10 cd10 ct10 oc11 kV11 dc11 pm11 cd11 ct11 oc12 kV12 dc12 pm12 cd12 ct12 oc13 kV13 dc13 pm13 cd13 ct13 oc14 kV14 dc14 pm14 cd14 ct14 oc15 kV15 dc15 pm15 cd15 ct15 oc16 kV16 dc16 pm16 cd16 ct16 oc17 kV17 dc17 pm17 cd17 ct17 oc18 kV18 dc18 pm18 cd18 ct18 oc19 kV19 dc19 pm19 cd19 ct19 oc20 kV20 dc20 pm20 cd20 ct20 oc21 kV21 dc21 pm21 cd21 ct21 oc22 kV22 dc22 pm22 cd22 ct22 oc23 kV23 dc23 pm23 cd23 ct23 oc24 kV24 dc24 pm24 cd24 ct24 oc25 kV25 dc25 pm25 cd25 ct25 oc26 kV26 dc26 pm26 cd26 ct26 oc27 kV27 dc27 pm27 cd27 ct27 oc28 kV28 dc28 pm28 cd28 ct28 oc29 kV29 dc29 pm29 cd29 ct29 : Value} {C1 : Addr} {tg1 : Tok} {tg2 : Tok} (X : K.In h) (G : h.Ns mainGlobals mg)
    (uc1 : PySem.W.nsIn K mainGlobals "Pair" = some (some (.ref C1)))
    (ug1 : PySem.W.plainGet K C1 Str.empty = true)
    (uh1 : PySem.W.hasDictIn K C1 = true)
    (uo1 : PySem.W.plainOver K C1 = true)
    (us1 : PySem.W.findIn K (.ref C1) "__setattr__" = some (some (.builtin "object.__setattr__")))
    (um1 : PySem.W.makesIn K C1 = true)
    (uk1 : PySem.W.keepIn K (.ref C1) = true)
    (uf1 : PySem.W.findIn K (.ref C1) "alone" = some none)
    (uf2 : PySem.W.findIn K (.ref C1) "laid" = some none)
    (uf3 : PySem.W.findIn K (.ref C1) "side" = some none)
    (uf4 : PySem.W.findIn K (.ref C1) "sounds" = some none)
    (uz1 : PySem.W.nsIn K mainGlobals "Pair.__init__" = some none)
    (uz2 : PySem.W.nsIn K mainGlobals "Pair.first" = some none)
    (uz3 : PySem.W.nsIn K mainGlobals "Pair.behind" = some none)
    (uz4 : PySem.W.nsIn K mainGlobals "Pair.ended" = some none)
    (uz5 : PySem.W.nsIn K mainGlobals "Pair.rows" = some none)
    (uz6 : PySem.W.nsIn K mainGlobals "Pair.word_with" = some none)
    (a1 : PySem.W.nsIn K mainGlobals "sounds_of" = some (some (.ref f1))) (l1 : K.lookup f1 = some ⟨oc1, od1, .func (PySem.W.fnOf "sounds_of" "sounds_of" (defArgs (top 5)) (defBody (top 5)) (defScope (top 5)) .none kV1 dc1 pm1 an1 cd1 ct1), sl1⟩) (c1 : PySem.W.codeIn K cd1 "sounds_of" = true) (k1 : PySem.W.keepIn K (.ref f1) = true)
    (a2 : PySem.W.nsIn K mainGlobals "fits" = some (some (.ref f2))) (l2 : K.lookup f2 = some ⟨oc2, od2, .func (PySem.W.fnOf "fits" "fits" (defArgs (top 7)) (defBody (top 7)) (defScope (top 7)) .none kV2 dc2 pm2 an2 cd2 ct2), sl2⟩) (c2 : PySem.W.codeIn K cd2 "fits" = true) (k2 : PySem.W.keepIn K (.ref f2) = true)
    (a3 : PySem.W.nsIn K mainGlobals "turned" = some (some (.ref f3))) (l3 : K.lookup f3 = some ⟨oc3, od3, .func (PySem.W.fnOf "turned" "turned" (defArgs (top 8)) (defBody (top 8)) (defScope (top 8)) .none kV3 dc3 pm3 an3 cd3 ct3), sl3⟩) (c3 : PySem.W.codeIn K cd3 "turned" = true) (k3 : PySem.W.keepIn K (.ref f3) = true)
    (a4 : PySem.W.nsIn K mainGlobals "rules_by_side" = some (some (.ref f4))) (l4 : K.lookup f4 = some ⟨oc4, od4, .func (PySem.W.fnOf "rules_by_side" "rules_by_side" (defArgs (top 11)) (defBody (top 11)) (defScope (top 11)) .none kV4 dc4 pm4 an4 cd4 ct4), sl4⟩) (c4 : PySem.W.codeIn K cd4 "rules_by_side" = true) (k4 : PySem.W.keepIn K (.ref f4) = true)
    (a5 : PySem.W.nsIn K mainGlobals "puts_in" = some (some (.ref f5))) (l5 : K.lookup f5 = some ⟨oc5, od5, .func (PySem.W.fnOf "puts_in" "puts_in" (defArgs (top 12)) (defBody (top 12)) (defScope (top 12)) .none kV5 dc5 pm5 an5 cd5 ct5), sl5⟩) (c5 : PySem.W.codeIn K cd5 "puts_in" = true) (k5 : PySem.W.keepIn K (.ref f5) = true)
    (a6 : PySem.W.nsIn K mainGlobals "first_standing" = some (some (.ref f6))) (l6 : K.lookup f6 = some ⟨oc6, od6, .func (PySem.W.fnOf "first_standing" "first_standing" (defArgs (top 13)) (defBody (top 13)) (defScope (top 13)) .none kV6 dc6 pm6 an6 cd6 ct6), sl6⟩) (c6 : PySem.W.codeIn K cd6 "first_standing" = true) (k6 : PySem.W.keepIn K (.ref f6) = true)
    (a7 : PySem.W.nsIn K mainGlobals "put_in_step" = some (some (.ref f7))) (l7 : K.lookup f7 = some ⟨oc7, od7, .func (PySem.W.fnOf "put_in_step" "put_in_step" (defArgs (top 14)) (defBody (top 14)) (defScope (top 14)) .none kV7 dc7 pm7 an7 cd7 ct7), sl7⟩) (c7 : PySem.W.codeIn K cd7 "put_in_step" = true) (k7 : PySem.W.keepIn K (.ref f7) = true)
    (a8 : PySem.W.nsIn K mainGlobals "change_step" = some (some (.ref f8))) (l8 : K.lookup f8 = some ⟨oc8, od8, .func (PySem.W.fnOf "change_step" "change_step" (defArgs (top 15)) (defBody (top 15)) (defScope (top 15)) .none kV8 dc8 pm8 an8 cd8 ct8), sl8⟩) (c8 : PySem.W.codeIn K cd8 "change_step" = true) (k8 : PySem.W.keepIn K (.ref f8) = true)
    (a9 : PySem.W.nsIn K mainGlobals "rule_step" = some (some (.ref f9))) (l9 : K.lookup f9 = some ⟨oc9, od9, .func (PySem.W.fnOf "rule_step" "rule_step" (defArgs (top 16)) (defBody (top 16)) (defScope (top 16)) .none kV9 dc9 pm9 an9 cd9 ct9), sl9⟩) (c9 : PySem.W.codeIn K cd9 "rule_step" = true) (k9 : PySem.W.keepIn K (.ref f9) = true)
    (a10 : PySem.W.nsIn K mainGlobals "rule_reads" = some (some (.ref f10))) (l10 : K.lookup f10 = some ⟨oc10, od10, .func (PySem.W.fnOf "rule_reads" "rule_reads" (defArgs (top 17)) (defBody (top 17)) (defScope (top 17)) .none kV10 dc10 pm10 an10 cd10 ct10), sl10⟩) (c10 : PySem.W.codeIn K cd10 "rule_reads" = true) (k10 : PySem.W.keepIn K (.ref f10) = true)
    (a11 : PySem.W.nsIn K mainGlobals "step_of" = some (some (.ref f11))) (l11 : K.lookup f11 = some ⟨oc11, od11, .func (PySem.W.fnOf "step_of" "step_of" (defArgs (top 18)) (defBody (top 18)) (defScope (top 18)) .none kV11 dc11 pm11 an11 cd11 ct11), sl11⟩) (c11 : PySem.W.codeIn K cd11 "step_of" = true) (k11 : PySem.W.keepIn K (.ref f11) = true)
    (a12 : PySem.W.nsIn K mainGlobals "end_step" = some (some (.ref f12))) (l12 : K.lookup f12 = some ⟨oc12, od12, .func (PySem.W.fnOf "end_step" "end_step" (defArgs (top 19)) (defBody (top 19)) (defScope (top 19)) .none kV12 dc12 pm12 an12 cd12 ct12), sl12⟩) (c12 : PySem.W.codeIn K cd12 "end_step" = true) (k12 : PySem.W.keepIn K (.ref f12) = true)
    (a13 : PySem.W.nsIn K mainGlobals "read_on" = some (some (.ref f13))) (l13 : K.lookup f13 = some ⟨oc13, od13, .func (PySem.W.fnOf "read_on" "read_on" (defArgs (top 20)) (defBody (top 20)) (defScope (top 20)) .none kV13 dc13 pm13 an13 cd13 ct13), sl13⟩) (c13 : PySem.W.codeIn K cd13 "read_on" = true) (k13 : PySem.W.keepIn K (.ref f13) = true)
    (a14 : PySem.W.nsIn K mainGlobals "reached" = some (some (.ref f14))) (l14 : K.lookup f14 = some ⟨oc14, od14, .func (PySem.W.fnOf "reached" "reached" (defArgs (top 21)) (defBody (top 21)) (defScope (top 21)) .none kV14 dc14 pm14 an14 cd14 ct14), sl14⟩) (c14 : PySem.W.codeIn K cd14 "reached" = true) (k14 : PySem.W.keepIn K (.ref f14) = true)
    (a15 : PySem.W.nsIn K mainGlobals "makes_way" = some (some (.ref f15))) (l15 : K.lookup f15 = some ⟨oc15, od15, .func (PySem.W.fnOf "makes_way" "makes_way" (defArgs (top 24)) (defBody (top 24)) (defScope (top 24)) .none kV15 dc15 pm15 an15 cd15 ct15), sl15⟩) (c15 : PySem.W.codeIn K cd15 "makes_way" = true) (k15 : PySem.W.keepIn K (.ref f15) = true)
    (a16 : PySem.W.nsIn K mainGlobals "takes_from" = some (some (.ref f16))) (l16 : K.lookup f16 = some ⟨oc16, od16, .func (PySem.W.fnOf "takes_from" "takes_from" (defArgs (top 25)) (defBody (top 25)) (defScope (top 25)) .none kV16 dc16 pm16 an16 cd16 ct16), sl16⟩) (c16 : PySem.W.codeIn K cd16 "takes_from" = true) (k16 : PySem.W.keepIn K (.ref f16) = true)
    (a17 : PySem.W.nsIn K mainGlobals "_law_mixed" = some (some (.ref f17))) (l17 : K.lookup f17 = some ⟨oc17, od17, .func (PySem.W.fnOf "_law_mixed" "_law_mixed" (defArgs (top 27)) (defBody (top 27)) (defScope (top 27)) .none kV17 dc17 pm17 an17 cd17 ct17), sl17⟩) (c17 : PySem.W.codeIn K cd17 "_law_mixed" = true) (k17 : PySem.W.keepIn K (.ref f17) = true)
    (a18 : PySem.W.nsIn K mainGlobals "_law_pack" = some (some (.ref f18))) (l18 : K.lookup f18 = some ⟨oc18, od18, .func (PySem.W.fnOf "_law_pack" "_law_pack" (defArgs (top 28)) (defBody (top 28)) (defScope (top 28)) .none kV18 dc18 pm18 an18 cd18 ct18), sl18⟩) (c18 : PySem.W.codeIn K cd18 "_law_pack" = true) (k18 : PySem.W.keepIn K (.ref f18) = true)
    (a19 : PySem.W.nsIn K mainGlobals "_law_take" = some (some (.ref f19))) (l19 : K.lookup f19 = some ⟨oc19, od19, .func (PySem.W.fnOf "_law_take" "_law_take" (defArgs (top 29)) (defBody (top 29)) (defScope (top 29)) .none kV19 dc19 pm19 an19 cd19 ct19), sl19⟩) (c19 : PySem.W.codeIn K cd19 "_law_take" = true) (k19 : PySem.W.keepIn K (.ref f19) = true)
    (a20 : PySem.W.nsIn K mainGlobals "_law_stock" = some (some (.ref f20))) (l20 : K.lookup f20 = some ⟨oc20, od20, .func (PySem.W.fnOf "_law_stock" "_law_stock" (defArgs (top 30)) (defBody (top 30)) (defScope (top 30)) .none kV20 dc20 pm20 an20 cd20 ct20), sl20⟩) (c20 : PySem.W.codeIn K cd20 "_law_stock" = true) (k20 : PySem.W.keepIn K (.ref f20) = true)
    (a21 : PySem.W.nsIn K mainGlobals "_law_sounds" = some (some (.ref f21))) (l21 : K.lookup f21 = some ⟨oc21, od21, .func (PySem.W.fnOf "_law_sounds" "_law_sounds" (defArgs (top 31)) (defBody (top 31)) (defScope (top 31)) .none kV21 dc21 pm21 an21 cd21 ct21), sl21⟩) (c21 : PySem.W.codeIn K cd21 "_law_sounds" = true) (k21 : PySem.W.keepIn K (.ref f21) = true)
    (a22 : PySem.W.nsIn K mainGlobals "_law_plain" = some (some (.ref f22))) (l22 : K.lookup f22 = some ⟨oc22, od22, .func (PySem.W.fnOf "_law_plain" "_law_plain" (defArgs (top 32)) (defBody (top 32)) (defScope (top 32)) .none kV22 dc22 pm22 an22 cd22 ct22), sl22⟩) (c22 : PySem.W.codeIn K cd22 "_law_plain" = true) (k22 : PySem.W.keepIn K (.ref f22) = true)
    (a23 : PySem.W.nsIn K mainGlobals "law" = some (some (.ref f23))) (l23 : K.lookup f23 = some ⟨oc23, od23, .func (PySem.W.fnOf "law" "law" (defArgs (top 33)) (defBody (top 33)) (defScope (top 33)) .none kV23 dc23 pm23 an23 cd23 ct23), sl23⟩) (c23 : PySem.W.codeIn K cd23 "law" = true) (k23 : PySem.W.keepIn K (.ref f23) = true)
    (a24 : PySem.W.findIn K (.ref C1) "__init__" = some (some (.ref f24))) (i24 : PySem.W.isFn K (.ref f24) = true) (l24 : K.lookup f24 = some ⟨oc24, od24, .func (PySem.W.fnOf "__init__" "Pair.__init__" (defArgs (inClass (top 23) 0)) (defBody (inClass (top 23) 0)) (defScope (inClass (top 23) 0)) .none kV24 dc24 pm24 an24 cd24 ct24), sl24⟩) (c24 : PySem.W.codeIn K cd24 "Pair.__init__" = true) (k24 : PySem.W.keepIn K (.ref f24) = true)
    (a25 : PySem.W.findIn K (.ref C1) "first" = some (some (.ref f25))) (i25 : PySem.W.isFn K (.ref f25) = true) (l25 : K.lookup f25 = some ⟨oc25, od25, .func (PySem.W.fnOf "first" "Pair.first" (defArgs (inClass (top 23) 1)) (defBody (inClass (top 23) 1)) (defScope (inClass (top 23) 1)) .none kV25 dc25 pm25 an25 cd25 ct25), sl25⟩) (c25 : PySem.W.codeIn K cd25 "Pair.first" = true) (k25 : PySem.W.keepIn K (.ref f25) = true)
    (a26 : PySem.W.findIn K (.ref C1) "behind" = some (some (.ref f26))) (i26 : PySem.W.isFn K (.ref f26) = true) (l26 : K.lookup f26 = some ⟨oc26, od26, .func (PySem.W.fnOf "behind" "Pair.behind" (defArgs (inClass (top 23) 2)) (defBody (inClass (top 23) 2)) (defScope (inClass (top 23) 2)) .none kV26 dc26 pm26 an26 cd26 ct26), sl26⟩) (c26 : PySem.W.codeIn K cd26 "Pair.behind" = true) (k26 : PySem.W.keepIn K (.ref f26) = true)
    (a27 : PySem.W.findIn K (.ref C1) "ended" = some (some (.ref f27))) (i27 : PySem.W.isFn K (.ref f27) = true) (l27 : K.lookup f27 = some ⟨oc27, od27, .func (PySem.W.fnOf "ended" "Pair.ended" (defArgs (inClass (top 23) 3)) (defBody (inClass (top 23) 3)) (defScope (inClass (top 23) 3)) .none kV27 dc27 pm27 an27 cd27 ct27), sl27⟩) (c27 : PySem.W.codeIn K cd27 "Pair.ended" = true) (k27 : PySem.W.keepIn K (.ref f27) = true)
    (a28 : PySem.W.findIn K (.ref C1) "rows" = some (some (.ref f28))) (i28 : PySem.W.isFn K (.ref f28) = true) (l28 : K.lookup f28 = some ⟨oc28, od28, .func (PySem.W.fnOf "rows" "Pair.rows" (defArgs (inClass (top 23) 4)) (defBody (inClass (top 23) 4)) (defScope (inClass (top 23) 4)) .none kV28 dc28 pm28 an28 cd28 ct28), sl28⟩) (c28 : PySem.W.codeIn K cd28 "Pair.rows" = true) (k28 : PySem.W.keepIn K (.ref f28) = true)
    (a29 : PySem.W.findIn K (.ref C1) "word_with" = some (some (.ref f29))) (i29 : PySem.W.isFn K (.ref f29) = true) (l29 : K.lookup f29 = some ⟨oc29, od29, .func (PySem.W.fnOf "word_with" "Pair.word_with" (defArgs (inClass (top 23) 5)) (defBody (inClass (top 23) 5)) (defScope (inClass (top 23) 5)) .none kV29 dc29 pm29 an29 cd29 ct29), sl29⟩) (c29 : PySem.W.codeIn K cd29 "Pair.word_with" = true) (k29 : PySem.W.keepIn K (.ref f29) = true)
    (z1 : PySem.W.nsIn K mainGlobals "dict" = some none)
    (z2 : PySem.W.nsIn K mainGlobals "divmod" = some none)
    (z3 : PySem.W.nsIn K mainGlobals "int" = some none)
    (z4 : PySem.W.nsIn K mainGlobals "len" = some none)
    (z5 : PySem.W.nsIn K mainGlobals "list" = some none)
    (z6 : PySem.W.nsIn K mainGlobals "range" = some none)
    (z7 : PySem.W.nsIn K mainGlobals "sorted" = some none)
    (z8 : PySem.W.nsIn K mainGlobals "tuple" = some none)
    (z9 : PySem.W.nsIn K mainGlobals "zip" = some none)
    (g1 : PySem.W.nsIn K mainGlobals "EDGE" = some (some (.str "#" tg1)))
    (g2 : PySem.W.nsIn K mainGlobals "MOST_STANDINGS" = some (some (.int 600 tg2))) : Facts pg tab K mg "law" "_law_script" := by
  refine ⟨⟨fun x hx => ?_, fun x hx => ?_, fun x f h => PySem.W.mg_of X G h, fun x d h => (List.mem_append.mp (show x ∈ tab.fn ++ mkeys from lookup_in h)).imp id fun hx => ?_, fun c hc => ?_, fun c hc => ?_, fun q hq => ?_⟩, fun x hx => ?_, fun q hq => ?_, fun q hq => ?_, df_c_law, f23, _, ⟨fun_mk (st := top 33) l23 c23 k23, PySem.W.mg_of X G a23, fun us hl => match us, hl with | [_], _ => rfl, fn_c_law, ck_c_law⟩, rfl⟩
  · simp only [tab, List.mem_cons, List.not_mem_nil, or_false] at hx
    rcases hx with rfl | rfl | rfl | rfl | rfl | rfl | rfl | rfl | rfl
    · exact PySem.W.mg_none_of X G z1
    · exact PySem.W.mg_none_of X G z2
    · exact PySem.W.mg_none_of X G z3
    · exact PySem.W.mg_none_of X G z4
    · exact PySem.W.mg_none_of X G z5
    · exact PySem.W.mg_none_of X G z6
    · exact PySem.W.mg_none_of X G z7
    · exact PySem.W.mg_none_of X G z8
    · exact PySem.W.mg_none_of X G z9
  · simp only [tab, List.mem_cons, List.not_mem_nil, or_false] at hx
    rcases hx with rfl | rfl
    · exact ⟨.str (toS ['#']), _, .str ['#'], by kernel_rfl, PySem.W.mg_of X G g1, ⟨tg1, by kernel_rfl⟩, fun _ _ _ _ _ => by simp only [Rep]; exact ⟨trivial, by decide +kernel⟩⟩
    · exact ⟨.int 600, _, .int 600, by kernel_rfl, PySem.W.mg_of X G g2, ⟨_, rfl⟩, fun _ _ _ _ _ => by simp only [Rep]⟩
  · simp only [mkeys, List.mem_cons, List.not_mem_nil, or_false] at hx
    rcases hx with rfl | rfl | rfl | rfl | rfl | rfl
    · exact PySem.W.mg_none_of X G uz1
    · exact PySem.W.mg_none_of X G uz2
    · exact PySem.W.mg_none_of X G uz3
    · exact PySem.W.mg_none_of X G uz4
    · exact PySem.W.mg_none_of X G uz5
    · exact PySem.W.mg_none_of X G uz6
  · exact absurd hc (by simp [tab])
  · exact absurd hc (by simp [tab])
  · simp only [tab, List.mem_cons, List.not_mem_nil, or_false] at hq
    rcases hq with rfl | rfl | rfl | rfl
    · exact ⟨C1, ⟨uc1, ⟨ug1, uh1, uo1, us1⟩⟩, uf1⟩
    · exact ⟨C1, ⟨uc1, ⟨ug1, uh1, uo1, us1⟩⟩, uf2⟩
    · exact ⟨C1, ⟨uc1, ⟨ug1, uh1, uo1, us1⟩⟩, uf3⟩
    · exact ⟨C1, ⟨uc1, ⟨ug1, uh1, uo1, us1⟩⟩, uf4⟩
  · simp only [tab, List.mem_cons, List.not_mem_nil, or_false] at hx
    rcases hx with rfl | rfl | rfl | rfl | rfl | rfl | rfl | rfl | rfl | rfl | rfl | rfl | rfl | rfl | rfl | rfl | rfl | rfl | rfl | rfl | rfl | rfl | rfl
    · exact ⟨df_c_sounds_of, f1, _, fun_mk (st := top 5) l1 c1 k1, PySem.W.mg_of X G a1, fun us hl => match us, hl with | [_], _ => rfl, fn_c_sounds_of, ck_c_sounds_of⟩
    · exact ⟨df_c_fits, f2, _, fun_mk (st := top 7) l2 c2 k2, PySem.W.mg_of X G a2, fun us hl => match us, hl with | [_, _], _ => rfl, fn_c_fits, ck_c_fits⟩
    · exact ⟨df_c_turned, f3, _, fun_mk (st := top 8) l3 c3 k3, PySem.W.mg_of X G a3, fun us hl => match us, hl with | [_], _ => rfl, fn_c_turned, ck_c_turned⟩
    · exact ⟨df_c_rules_by_side, f4, _, fun_mk (st := top 11) l4 c4 k4, PySem.W.mg_of X G a4, fun us hl => match us, hl with | [_], _ => rfl, fn_c_rules_by_side, ck_c_rules_by_side⟩
    · exact ⟨df_c_puts_in, f5, _, fun_mk (st := top 12) l5 c5 k5, PySem.W.mg_of X G a5, fun us hl => match us, hl with | [_], _ => rfl, fn_c_puts_in, ck_c_puts_in⟩
    · exact ⟨df_c_first_standing, f6, _, fun_mk (st := top 13) l6 c6 k6, PySem.W.mg_of X G a6, fun us hl => match us, hl with | [_], _ => rfl, fn_c_first_standing, ck_c_first_standing⟩
    · exact ⟨df_c_put_in_step, f7, _, fun_mk (st := top 14) l7 c7 k7, PySem.W.mg_of X G a7, fun us hl => match us, hl with | [_, _, _], _ => rfl, fn_c_put_in_step, ck_c_put_in_step⟩
    · exact ⟨df_c_change_step, f8, _, fun_mk (st := top 15) l8 c8 k8, PySem.W.mg_of X G a8, fun us hl => match us, hl with | [_, _, _], _ => rfl, fn_c_change_step, ck_c_change_step⟩
    · exact ⟨df_c_rule_step, f9, _, fun_mk (st := top 16) l9 c9 k9, PySem.W.mg_of X G a9, fun us hl => match us, hl with | [_, _, _], _ => rfl, fn_c_rule_step, ck_c_rule_step⟩
    · exact ⟨df_c_rule_reads, f10, _, fun_mk (st := top 17) l10 c10 k10, PySem.W.mg_of X G a10, fun us hl => match us, hl with | [_, _, _], _ => rfl, fn_c_rule_reads, ck_c_rule_reads⟩
    · exact ⟨df_c_step_of, f11, _, fun_mk (st := top 18) l11 c11 k11, PySem.W.mg_of X G a11, fun us hl => match us, hl with | [_, _, _], _ => rfl, fn_c_step_of, ck_c_step_of⟩
    · exact ⟨df_c_end_step, f12, _, fun_mk (st := top 19) l12 c12 k12, PySem.W.mg_of X G a12, fun us hl => match us, hl with | [_, _], _ => rfl, fn_c_end_step, ck_c_end_step⟩
    · exact ⟨df_c_read_on, f13, _, fun_mk (st := top 20) l13 c13 k13, PySem.W.mg_of X G a13, fun us hl => match us, hl with | [_, _, _], _ => rfl, fn_c_read_on, ck_c_read_on⟩
    · exact ⟨df_c_reached, f14, _, fun_mk (st := top 21) l14 c14 k14, PySem.W.mg_of X G a14, fun us hl => match us, hl with | [_, _], _ => rfl, fn_c_reached, ck_c_reached⟩
    · exact ⟨df_c_makes_way, f15, _, fun_mk (st := top 24) l15 c15 k15, PySem.W.mg_of X G a15, fun us hl => match us, hl with | [_, _, _, _], _ => rfl, fn_c_makes_way, ck_c_makes_way⟩
    · exact ⟨df_c_takes_from, f16, _, fun_mk (st := top 25) l16 c16 k16, PySem.W.mg_of X G a16, fun us hl => match us, hl with | [_, _, _, _], _ => rfl, fn_c_takes_from, ck_c_takes_from⟩
    · exact ⟨df_c_law_mixed, f17, _, fun_mk (st := top 27) l17 c17 k17, PySem.W.mg_of X G a17, fun us hl => match us, hl with | [_], _ => rfl, fn_c_law_mixed, ck_c_law_mixed⟩
    · exact ⟨df_c_law_pack, f18, _, fun_mk (st := top 28) l18 c18 k18, PySem.W.mg_of X G a18, fun us hl => match us, hl with | [_, _], _ => rfl, fn_c_law_pack, ck_c_law_pack⟩
    · exact ⟨df_c_law_take, f19, _, fun_mk (st := top 29) l19 c19 k19, PySem.W.mg_of X G a19, fun us hl => match us, hl with | [_, _], _ => rfl, fn_c_law_take, ck_c_law_take⟩
    · exact ⟨df_c_law_stock, f20, _, fun_mk (st := top 30) l20 c20 k20, PySem.W.mg_of X G a20, fun us hl => match us, hl with | [_], _ => rfl, fn_c_law_stock, ck_c_law_stock⟩
    · exact ⟨df_c_law_sounds, f21, _, fun_mk (st := top 31) l21 c21 k21, PySem.W.mg_of X G a21, fun us hl => match us, hl with | [_], _ => rfl, fn_c_law_sounds, ck_c_law_sounds⟩
    · exact ⟨df_c_law_plain, f22, _, fun_mk (st := top 32) l22 c22 k22, PySem.W.mg_of X G a22, fun us hl => match us, hl with | [_, _], _ => rfl, fn_c_law_plain, ck_c_law_plain⟩
    · exact ⟨df_c_law, f23, _, fun_mk (st := top 33) l23 c23 k23, PySem.W.mg_of X G a23, fun us hl => match us, hl with | [_], _ => rfl, fn_c_law, ck_c_law⟩
  · simp only [tab, List.mem_cons, List.not_mem_nil, or_false] at hq
    rcases hq with rfl | rfl | rfl | rfl | rfl
    · exact ⟨C1, df_c_Pair_behind, f26, _, ⟨uc1, ⟨ug1, uh1, uo1, us1⟩⟩, ⟨a26, i26, k26⟩, ⟨fun_mk (st := inClass (top 23) 2) l26 c26 k26, fun us hl => match us, hl with | [_, _, _], _ => rfl, fn_c_Pair_behind, ck_c_Pair_behind⟩⟩
    · exact ⟨C1, df_c_Pair_ended, f27, _, ⟨uc1, ⟨ug1, uh1, uo1, us1⟩⟩, ⟨a27, i27, k27⟩, ⟨fun_mk (st := inClass (top 23) 3) l27 c27 k27, fun us hl => match us, hl with | [_, _], _ => rfl, fn_c_Pair_ended, ck_c_Pair_ended⟩⟩
    · exact ⟨C1, df_c_Pair_first, f25, _, ⟨uc1, ⟨ug1, uh1, uo1, us1⟩⟩, ⟨a25, i25, k25⟩, ⟨fun_mk (st := inClass (top 23) 1) l25 c25 k25, fun us hl => match us, hl with | [_], _ => rfl, fn_c_Pair_first, ck_c_Pair_first⟩⟩
    · exact ⟨C1, df_c_Pair_rows, f28, _, ⟨uc1, ⟨ug1, uh1, uo1, us1⟩⟩, ⟨a28, i28, k28⟩, ⟨fun_mk (st := inClass (top 23) 4) l28 c28 k28, fun us hl => match us, hl with | [_], _ => rfl, fn_c_Pair_rows, ck_c_Pair_rows⟩⟩
    · exact ⟨C1, df_c_Pair_word_with, f29, _, ⟨uc1, ⟨ug1, uh1, uo1, us1⟩⟩, ⟨a29, i29, k29⟩, ⟨fun_mk (st := inClass (top 23) 5) l29 c29 k29, fun us hl => match us, hl with | [_, _], _ => rfl, fn_c_Pair_word_with, ck_c_Pair_word_with⟩⟩
  · simp only [tab, List.mem_cons, List.not_mem_nil, or_false] at hq
    rcases hq with rfl
    · exact ⟨C1, df_c_Pair__init, f24, _, ⟨uc1, ⟨ug1, uh1, uo1, us1⟩⟩, PySem.W.mg_of X G uc1, ⟨um1, a24, i24, uk1⟩, ⟨fun_mk (st := inClass (top 23) 0) l24 c24 k24, fun us hl => match us, hl with | [_, _, _, _, _], _ => rfl, fn_c_Pair__init, ck_c_Pair__init⟩⟩
end Z

open PySem PySem.W PyProof.Rows in
set_option maxRecDepth 100000 in
set_option maxHeartbeats 0 in
theorem PySem.Challenge.cw_soundrules_k40_whole_plain_rules_holds : PySem.Challenge.rw_soundrules_k40_whole_plain_rules.Holds := by
  w_on; o_law; k_head; (case hw => w_witness2)
  k_fill
  refine Z.law_walk (l := PySem.Challenge.rw_soundrules_k40_whole_plain_rules) Z.pg Z.tab Z.depth (x := "_law_script") rfl rfl (by decide) (by decide +kernel) (fun w h Y => PySem.W.kIn_of Y) ?F Z.law_true
  case F =>
    intro w mg h KX G
    refine' Z.facts KX G ?uc1 ?ug1 ?uh1 ?uo1 ?us1 ?um1 ?uk1 ?uf1 ?uf2 ?uf3 ?uf4 ?uz1 ?uz2 ?uz3 ?uz4 ?uz5 ?uz6 ?a1 ?l1 ?c1 ?k1 ?a2 ?l2 ?c2 ?k2 ?a3 ?l3 ?c3 ?k3 ?a4 ?l4 ?c4 ?k4 ?a5 ?l5 ?c5 ?k5 ?a6 ?l6 ?c6 ?k6 ?a7 ?l7 ?c7 ?k7 ?a8 ?l8 ?c8 ?k8 ?a9 ?l9 ?c9 ?k9 ?a10 ?l10 ?c10 ?k10 ?a11 ?l11 ?c11 ?k11 ?a12 ?l12 ?c12 ?k12 ?a13 ?l13 ?c13 ?k13 ?a14 ?l14 ?c14 ?k14 ?a15 ?l15 ?c15 ?k15 ?a16 ?l16 ?c16 ?k16 ?a17 ?l17 ?c17 ?k17 ?a18 ?l18 ?c18 ?k18 ?a19 ?l19 ?c19 ?k19 ?a20 ?l20 ?c20 ?k20 ?a21 ?l21 ?c21 ?k21 ?a22 ?l22 ?c22 ?k22 ?a23 ?l23 ?c23 ?k23 ?a24 ?i24 ?l24 ?c24 ?k24 ?a25 ?i25 ?l25 ?c25 ?k25 ?a26 ?i26 ?l26 ?c26 ?k26 ?a27 ?i27 ?l27 ?c27 ?k27 ?a28 ?i28 ?l28 ?c28 ?k28 ?a29 ?i29 ?l29 ?c29 ?k29 ?z1 ?z2 ?z3 ?z4 ?z5 ?z6 ?z7 ?z8 ?z9 ?g1 ?g2
    (case uc1 => k_is)
    (case ug1 => k_is)
    (case uh1 => k_is)
    (case uo1 => k_is)
    (case us1 => k_is)
    (case um1 => k_is)
    (case uk1 => k_is)
    (case uf1 => k_is)
    (case uf2 => k_is)
    (case uf3 => k_is)
    (case uf4 => k_is)
    (case uz1 => k_is)
    (case uz2 => k_is)
    (case uz3 => k_is)
    (case uz4 => k_is)
    (case uz5 => k_is)
    (case uz6 => k_is)
    (case a1 => k_is)
    (case l1 => k_is)
    (case c1 => k_is)
    (case k1 => k_is)
    (case a2 => k_is)
    (case l2 => k_is)
    (case c2 => k_is)
    (case k2 => k_is)
    (case a3 => k_is)
    (case l3 => k_is)
    (case c3 => k_is)
    (case k3 => k_is)
    (case a4 => k_is)
    (case l4 => k_is)
    (case c4 => k_is)
    (case k4 => k_is)
    (case a5 => k_is)
    (case l5 => k_is)
    (case c5 => k_is)
    (case k5 => k_is)
    (case a6 => k_is)
    (case l6 => k_is)
    (case c6 => k_is)
    (case k6 => k_is)
    (case a7 => k_is)
    (case l7 => k_is)
    (case c7 => k_is)
    (case k7 => k_is)
    (case a8 => k_is)
    (case l8 => k_is)
    (case c8 => k_is)
    (case k8 => k_is)
    (case a9 => k_is)
    (case l9 => k_is)
    (case c9 => k_is)
    (case k9 => k_is)
    (case a10 => k_is)
    (case l10 => k_is)
    (case c10 => k_is)
    (case k10 => k_is)
    (case a11 => k_is)
    (case l11 => k_is)
    (case c11 => k_is)
    (case k11 => k_is)
    (case a12 => k_is)
    (case l12 => k_is)
    (case c12 => k_is)
    (case k12 => k_is)
    (case a13 => k_is)
    (case l13 => k_is)
    (case c13 => k_is)
    (case k13 => k_is)
    (case a14 => k_is)
    (case l14 => k_is)
    (case c14 => k_is)
    (case k14 => k_is)
    (case a15 => k_is)
    (case l15 => k_is)
    (case c15 => k_is)
    (case k15 => k_is)
    (case a16 => k_is)
    (case l16 => k_is)
    (case c16 => k_is)
    (case k16 => k_is)
    (case a17 => k_is)
    (case l17 => k_is)
    (case c17 => k_is)
    (case k17 => k_is)
    (case a18 => k_is)
    (case l18 => k_is)
    (case c18 => k_is)
    (case k18 => k_is)
    (case a19 => k_is)
    (case l19 => k_is)
    (case c19 => k_is)
    (case k19 => k_is)
    (case a20 => k_is)
    (case l20 => k_is)
    (case c20 => k_is)
    (case k20 => k_is)
    (case a21 => k_is)
    (case l21 => k_is)
    (case c21 => k_is)
    (case k21 => k_is)
    (case a22 => k_is)
    (case l22 => k_is)
    (case c22 => k_is)
    (case k22 => k_is)
    (case a23 => k_is)
    (case l23 => k_is)
    (case c23 => k_is)
    (case k23 => k_is)
    (case a24 => k_is)
    (case i24 => k_is)
    (case l24 => k_is)
    (case c24 => k_is)
    (case k24 => k_is)
    (case a25 => k_is)
    (case i25 => k_is)
    (case l25 => k_is)
    (case c25 => k_is)
    (case k25 => k_is)
    (case a26 => k_is)
    (case i26 => k_is)
    (case l26 => k_is)
    (case c26 => k_is)
    (case k26 => k_is)
    (case a27 => k_is)
    (case i27 => k_is)
    (case l27 => k_is)
    (case c27 => k_is)
    (case k27 => k_is)
    (case a28 => k_is)
    (case i28 => k_is)
    (case l28 => k_is)
    (case c28 => k_is)
    (case k28 => k_is)
    (case a29 => k_is)
    (case i29 => k_is)
    (case l29 => k_is)
    (case c29 => k_is)
    (case k29 => k_is)
    (case z1 => k_is)
    (case z2 => k_is)
    (case z3 => k_is)
    (case z4 => k_is)
    (case z5 => k_is)
    (case z6 => k_is)
    (case z7 => k_is)
    (case z8 => k_is)
    (case z9 => k_is)
    (case g1 => k_is)
    (case g2 => k_is)
