import PyProof.Rows.All
import Wide.All
import OpenK.AllK
import Wide.FinOn
import HandS.ForMost
import HandS.Defaults
import HandS.Sort
import HandS.Conv
import HandS.TupAny
import HandS.TupMul
import HandS.TupLe
import HandS.SortInts
import HandS.SortRule
import HandS.TupSets
import HandS.Text
import HandS.Strs
import HandS.SetFor
import HandS.Dict
import HandS.Deep
import HandS.Zip
import HandS.IsInst
import HandS.Flow
import HandS.Style
import HandS.Head0
import HandS.Head1
import HandS.Head2
import HandS.HeadEnd
import HandS.HeadHook1
import HandS.HeadHook2
import KE.KStateDown
import Lean
import HandS.Ends
import HandS.More
import HandS.Words
import HandS.WordsExc
import PySem.Challenge.RW_webintoweb_k03_ties_of_places
set_option Elab.async false
set_option linter.all false
set_option maxRecDepth 100000
set_option maxHeartbeats 0
/-! W1: plain data, a small code, and what running it gives (no machine in sight). -/
namespace Wb
open PySem

inductive D where
  | non | bl (b : Bool) | int (i : Int) | str (x : Str) | tup (xs : List D) | fix (xs : List D) | ref (n : Nat)
inductive O where
  | lst (xs : List D)
  | dik (kvs : List (L2.Key × D))
  | dit (kvs : List (List L2.Key × D))

mutual
def D.beq : D → D → Bool
  | .non, .non => true
  | .bl a, .bl b => decide (a = b)
  | .int a, .int b => decide (a = b)
  | .str a, .str b => decide (a = b)
  | .tup a, .tup b => D.beqs a b
  | .fix a, .fix b => D.beqs a b
  | .ref a, .ref b => decide (a = b)
  | _, _ => false
def D.beqs : List D → List D → Bool
  | [], [] => true
  | a :: r, b :: t => D.beq a b && D.beqs r t
  | _, _ => false
end
mutual
theorem D.beq_eq : ∀ a b : D, D.beq a b = true → a = b
  | .non, b, h => by cases b <;> simp_all [D.beq]
  | .bl _, b, h => by cases b <;> simp_all [D.beq]
  | .int _, b, h => by cases b <;> simp_all [D.beq]
  | .str _, b, h => by cases b <;> simp_all [D.beq]
  | .ref _, b, h => by cases b <;> simp_all [D.beq]
  | .tup xs, b, h => by
    cases b with
    | tup ys => rw [D.beqs_eq xs ys (by simpa [D.beq] using h)]
    | _ => simp [D.beq] at h
  | .fix xs, b, h => by
    cases b with
    | fix ys => rw [D.beqs_eq xs ys (by simpa [D.beq] using h)]
    | _ => simp [D.beq] at h
theorem D.beqs_eq : ∀ a b : List D, D.beqs a b = true → a = b
  | [], b, h => by cases b <;> simp_all [D.beqs]
  | x :: r, b, h => by
    cases b with
    | nil => simp [D.beqs] at h
    | cons y t =>
      have h' : D.beq x y = true ∧ D.beqs r t = true := by simpa [D.beqs] using h
      rw [D.beq_eq x y h'.1, D.beqs_eq r t h'.2]
end
mutual
theorem D.beq_self : ∀ a : D, D.beq a a = true
  | .non => rfl
  | .bl _ => by simp [D.beq]
  | .int _ => by simp [D.beq]
  | .str _ => by simp [D.beq]
  | .ref _ => by simp [D.beq]
  | .tup xs => by simp [D.beq, D.beqs_self xs]
  | .fix xs => by simp [D.beq, D.beqs_self xs]
theorem D.beqs_self : ∀ a : List D, D.beqs a a = true
  | [] => rfl
  | x :: r => by simp [D.beqs, D.beq_self x, D.beqs_self r]
end
instance : DecidableEq D := fun a b => if h : D.beq a b = true then isTrue (D.beq_eq a b h) else isFalse fun e => h (e ▸ D.beq_self a)
instance : DecidableEq O := fun a b => match a, b with
  | .lst x, .lst y => if h : x = y then isTrue (h ▸ rfl) else isFalse fun e => h (O.lst.inj e)
  | .dik x, .dik y => if h : x = y then isTrue (h ▸ rfl) else isFalse fun e => h (O.dik.inj e)
  | .dit x, .dit y => if h : x = y then isTrue (h ▸ rfl) else isFalse fun e => h (O.dit.inj e)
  | .lst _, .dik _ => isFalse nofun
  | .lst _, .dit _ => isFalse nofun
  | .dik _, .lst _ => isFalse nofun
  | .dik _, .dit _ => isFalse nofun
  | .dit _, .lst _ => isFalse nofun
  | .dit _, .dik _ => isFalse nofun

mutual
def D.under (m : Nat) : D → Bool
  | .tup xs => D.unders m xs
  | .fix xs => D.unders m xs
  | .ref n => decide (n < m)
  | _ => true
def D.unders (m : Nat) : List D → Bool
  | [] => true
  | x :: r => D.under m x && D.unders m r
end
def O.under (m : Nat) : O → Bool
  | .lst xs => D.unders m xs
  | .dik kvs => kvs.all fun p => p.2.under m
  | .dit kvs => kvs.all fun p => p.2.under m

abbrev Store := List O
abbrev Env := List (Option D)
inductive Res (α : Type) where
  | ok (a : α) (S : Store)
  | exc (x : D) (S : Store)
  | bad
@[inline] def Res.bind {α β : Type} (r : Res α) (f : α → Store → Res β) : Res β := match r with
  | .ok a S => f a S
  | .exc x S => .exc x S
  | .bad => .bad
@[simp] theorem Res.bind_ok {α β : Type} (a : α) (S : Store) (f : α → Store → Res β) : (Res.ok a S).bind f = f a S := rfl
@[simp] theorem Res.bind_exc {α β : Type} (x : D) (S : Store) (f : α → Store → Res β) : (Res.exc x S : Res α).bind f = .exc x S := rfl
@[simp] theorem Res.bind_bad {α β : Type} (f : α → Store → Res β) : (Res.bad : Res α).bind f = .bad := rfl
def Res.opt {α : Type} (S : Store) : Option α → Res α
  | some a => .ok a S
  | none => .bad
@[simp] theorem Res.opt_some {α : Type} (S : Store) (a : α) : Res.opt S (some a) = .ok a S := rfl
@[simp] theorem Res.opt_none {α : Type} (S : Store) : (Res.opt S (none : Option α)) = .bad := rfl
/-- what a statement comes to -/
inductive Out where
  | nx (r : Env) | rt (d : D) | bk (r : Env) | ct (r : Env)

/-! ### the code -/
inductive Op where
  | add | sub | mul | fdiv | mod | pow | shl | shr | band
  deriving DecidableEq
inductive Cp where
  | eq | ne | lt | le | gt | ge | is | isnt | isin | notin
  deriving DecidableEq
/-- calls of built-ins on values -/
inductive B where
  | len | repr | int | str | abs | isInt | isBool | isStr | isTup | isList
  deriving DecidableEq
/-- calls of built-ins on lists -/
inductive C where
  | tup | all | any | len | sum | min | max | lenSet
  deriving DecidableEq
inductive M where
  | append | pop | index | count | insert | popAt | clear
  deriving DecidableEq
mutual
inductive E where
  | var (i : Nat)
  | lit (d : D)
  | tup (es : List E)
  | op (o : Op) (a b : E)
  | cp (o : Cp) (a b : E)
  | cpL (neg : Bool) (a b : Ls)
  | chain (o p : Cp) (a b c : E)
  | neg (a : E)
  | not (a : E)
  | and (a b : E)
  | or (a b : E)
  | ite (c a b : E)
  | ix (a i : E)
  | sl (a : E) (lo hi : Option E)
  | call (f : Nat) (es : List E)
  | blt (b : B) (es : List E)
  | con (c : C) (l : Ls)
  | tupRng (a b : E)
  | newL (l : Ls)
  | newD
  | newT
  | dic (kvs : List (Str × E))
  | meth (m : M) (o : E) (es : List E)
  | ext (o : E) (l : Ls)
  | isi (b : B) (e : E)
inductive Ls where
  | of (e : E)
  | ofl (e : E)
  | disp (es : List E)
  | comp (own : List Nat) (t : T) (it : It) (c : Option E) (e : E)
  | list (l : Ls)
  | rng (a b : E)
  | sorted (l : Ls)
  | sortedSet (l : Ls)
  | cat (a b : Ls)
  | rep (a : Ls) (n : E)
  | sl (a : E) (lo hi : Option E)
inductive T where
  | name (i : Nat)
  | tup (ts : List T)
  | sub (o i : E)
inductive It where
  | of (e : E)
  | ofL (l : Ls)
  | rng (a b : E)
  | enum (e : E)
  | zip (a b : E)
end
/-- 0: a list or a tuple; 1: a list of the store; 2: a new list -/
def Ls.kd : Ls → Nat
  | .of _ => 0
  | .sl _ _ _ => 0
  | .ofl _ => 1
  | _ => 2
/-- what was read as a list ahead still stands -/
def heldL (l : Ls) (s1 s2 : Store) : Bool := decide (l.kd = 2) || decide (s2 = s1)
mutual
def T.ids : T → List Nat
  | .name i => [i]
  | .tup ts => T.idss ts
  | .sub _ _ => []
def T.idss : List T → List Nat
  | [] => []
  | t :: ts => T.ids t ++ T.idss ts
end
inductive S where
  | asg (t : T) (e : E)
  | ex (e : E)
  | ret (e : E)
  | retN
  | ite (c : E) (a b : List S)
  | for_ (t : T) (it : It) (b : List S)
  | whl (c : E) (b : List S)
  | par (i j : Nat) (a b : E)
  | par3 (i j l : Nat) (a b c : E)
  | pass
  | brk
  | cnt
structure Fn where
  np : Nat
  nn : Nat
  body : List S

/-! ### operations on plain data -/
def D.key : D → Option L2.Key
  | .int i => some (.inl i)
  | .str x => some (.inr x)
  | _ => none
def D.keys : List D → Option (List L2.Key)
  | [] => some []
  | d :: ds => match d.key, D.keys ds with
    | some k, some r => some (k :: r)
    | _, _ => none
def keyD : L2.Key → D
  | .inl i => .int i
  | .inr x => .str x
section
variable {κ : Type} [DecidableEq κ] {α : Type}
def getK (kvs : List (κ × α)) (k : κ) : Option α := (kvs.find? fun kv => decide (kv.1 = k)).map (·.2)
def setK (kvs : List (κ × α)) (k : κ) (v : α) : List (κ × α) :=
  if kvs.any fun kv => decide (kv.1 = k) then kvs.map fun kv => if kv.1 = k then (kv.1, v) else kv else kvs ++ [(k, v)]
end
def mapO {α β : Type} (f : α → Option β) : List α → Option (List β)
  | [] => some []
  | x :: r => match f x, mapO f r with
    | some a, some b => some (a :: b)
    | _, _ => none
/-- as plain data, objects read; less than n deep -/
def toPy (S : Store) : Nat → D → Option PyData
  | 0, _ => none
  | n + 1, d => match d with
    | .non => some .none
    | .bl b => some (.bool b)
    | .int i => some (.int i)
    | .str x => some (.str x)
    | .tup xs => (mapO (toPy S n) xs).map .tuple
    | .fix xs => (mapO (toPy S n) xs).map .list
    | .ref k => match S[k]? with
      | some (.lst xs) => (mapO (toPy S n) xs).map .list
      | _ => none
/-- the plain data, if it can be compared -/
def pyOk (S : Store) (d : D) : Option PyData := match toPy S 60 d with
  | some a => if SeqAt.shaped a then some a else none
  | none => none
def eqD (S : Store) : D → D → Option Bool
  | .int i, .int j => some (decide (i = j))
  | .str x, .str y => some (decide (x = y))
  | .bl a, .bl b => some (decide (a = b))
  | d, e => match pyOk S d, pyOk S e with
    | some a, some b => some (PyData.eqv a b)
    | _, _ => none
def pyOks (S : Store) (xs : List D) : Option (List PyData) := match mapO (toPy S 59) xs with
  | some a => if SeqAt.shaped (.list a) then some a else none
  | none => none
def eqL (S : Store) (a b : List D) : Option Bool := match pyOks S a, pyOks S b with
  | some a, some b => some (PyData.eqv (.list a) (.list b))
  | _, _ => none
def inD (S : Store) (d : D) (xs : List D) : Option Bool := match pyOk S d, pyOks S xs with
  | some a, some b => some (b.any fun z => PyData.eqv z a)
  | _, _ => none
def asInt : D → Option Int
  | .int i => some i
  | _ => none
def asBool : D → Option Bool
  | .bl b => some b
  | _ => none
def asPair : D → Option (Int × Int)
  | .tup [.int i, .int j] => some (i, j)
  | _ => none
def asInts (xs : List D) : Option (List Int) := mapO asInt xs
def asBools (xs : List D) : Option (List Bool) := mapO asBool xs
def asPairs (xs : List D) : Option (List (Int × Int)) := mapO asPair xs
def ofPair (p : Int × Int) : D := .tup [.int p.1, .int p.2]
def ltD : D → D → Option Bool
  | .int i, .int j => some (decide (i < j))
  | .tup xs, .tup ys => match asInts xs, asInts ys with
    | some a, some b => some (HT.lexLt a b)
    | _, _ => none
  | _, _ => none
def lt2 (p q : Int × Int) : Bool := if p.1 = q.1 then decide (p.2 < q.2) else decide (p.1 < q.1)
def ins {α : Type} (le : α → α → Bool) (x : α) : List α → List α
  | [] => [x]
  | y :: r => if le x y then x :: y :: r else y :: ins le x r
def srt {α : Type} (le : α → α → Bool) : List α → List α
  | [] => []
  | x :: r => ins le x (srt le r)
abbrev srtI : List Int → List Int := srt fun a b => decide (a ≤ b)
abbrev srtP : List (Int × Int) → List (Int × Int) := srt fun a b => !lt2 b a
def dedup {α : Type} [DecidableEq α] : List α → List α
  | [] => []
  | x :: r => if x ∈ r then dedup r else x :: dedup r
def sortD (xs : List D) : Option (List D) := match asInts xs with
  | some ns => some ((srtI ns).map .int)
  | none => match asPairs xs with
    | some ps => some ((srtP ps).map ofPair)
    | none => none
def sortSetD (xs : List D) : Option (List D) := match asPairs xs with
  | some ps => if decide (ps.length < 64) && ps.all (fun p => decide (0 ≤ p.1) && decide (p.1 < 1000000) && decide (0 ≤ p.2) && decide (p.2 < 1000000)) then some ((srtP (dedup ps)).map ofPair) else none
  | none => none
/-- at most so many things -/
abbrev top : Nat := 1000000
def small (n : Nat) : Bool := decide (n ≤ top)
def rngL (a b : Int) : List D := (List.range (b - a).toNat).map fun i => .int (a + (i : Nat))
def rngOk (a b : Int) : Bool := decide (-1000000 ≤ a) && decide (a ≤ 1000000) && decide (-1000000 ≤ b) && decide (b ≤ 1000000)
abbrev atD {α : Type} (xs : List α) (i : Int) : Option α := L2.atI xs i
def cut {α : Type} (xs : List α) (lo hi : Option Int) : List α := (xs.drop (HT.sIx xs.length 0 lo)).take (HT.sIx xs.length xs.length hi - HT.sIx xs.length 0 lo)
def listAt (S : Store) : D → Option (List D)
  | .fix xs => some xs
  | .ref n => match S[n]? with
    | some (.lst xs) => some xs
    | _ => none
  | _ => none
def lstAt (S : Store) : D → Option (List D)
  | .ref n => match S[n]? with
    | some (.lst xs) => some xs
    | _ => none
  | _ => none
def enumL (k : Int) : List D → List D
  | [] => []
  | x :: r => .tup [.int k, x] :: enumL (k + 1) r
def zipL : List D → List D → List D
  | x :: r, y :: t => .tup [x, y] :: zipL r t
  | _, _ => []
/-- a list or a tuple -/
def seqAt (S : Store) : D → Option (List D)
  | .tup xs => some xs
  | .fix xs => some xs
  | .ref n => match S[n]? with
    | some (.lst xs) => some xs
    | _ => none
  | _ => none
def okMul (i j : Int) : Bool := (decide (-(2 ^ 64) < i) && decide (i < 2 ^ 64)) || (decide (-(2 ^ 64) < j) && decide (j < 2 ^ 64))
def opD (S : Store) : Op → D → D → Option (D × Store)
  | .add, .int i, .int j => some (.int (i + j), S)
  | .add, .tup xs, .tup ys => if small (xs.length + ys.length) then some (.tup (xs ++ ys), S) else none
  | .add, .str x, .str y => if small (x.length + y.length) then some (.str (x ++ y), S) else none
  | .sub, .int i, .int j => some (.int (i - j), S)
  | .mul, .int i, .int j => if okMul i j then some (.int (i * j), S) else none
  | .fdiv, .int i, .int j => if decide (0 < j) && decide (j < 1073741824) then some (.int (i / j), S) else none
  | .mod, .int i, .int j => if decide (0 < j) then some (.int (i % j), S) else none
  | .pow, .int i, .int j => if decide (0 ≤ j) && decide (j ≤ 1000000) && decide (i.natAbs < 2 ^ 64) then some (.int (i ^ j.toNat), S) else none
  | .shl, .int i, .int j => if decide (0 ≤ j) && decide (j ≤ 1000000) && decide (i.natAbs < 2 ^ 64) then some (.int (i * 2 ^ j.toNat), S) else none
  | .shr, .int i, .int j => if decide (0 ≤ j) then some (.int (i / 2 ^ j.toNat), S) else none
  | .band, .int i, .int j => some (.int (Builtin.bitAnd i j), S)
  | _, _, _ => none
def noB (b : Bool) : D := .bl (!b)
def cpD (S : Store) : Cp → D → D → Option D
  | .eq, d, e => (eqD S d e).map .bl
  | .ne, d, e => (eqD S d e).map noB
  | .lt, d, e => (ltD d e).map .bl
  | .gt, .int i, .int j => some (.bl (decide (j < i)))
  | .le, .int i, .int j => some (.bl (decide (i ≤ j)))
  | .ge, .int i, .int j => some (.bl (decide (j ≤ i)))
  | .is, d, .non => some (.bl (decide (d = .non)))
  | .isnt, d, .non => some (.bl (!decide (d = .non)))
  | .isin, .str x, .str y => some (.bl (!(Builtin.Str.occurrences y x 0 y.length 1).isEmpty))
  | .notin, .str x, .str y => some (.bl (!!(Builtin.Str.occurrences y x 0 y.length 1).isEmpty))
  | .isin, d, .tup xs => (inD S d xs).map .bl
  | .notin, d, .tup xs => (inD S d xs).map noB
  | .isin, d, .ref n => match S[n]? with
    | some (.lst xs) => (inD S d xs).map .bl
    | some (.dik kvs) => d.key.map fun k => .bl (getK kvs k).isSome
    | some (.dit kvs) => match d with
      | .tup ds => (D.keys ds).map fun k => .bl (getK kvs k).isSome
      | _ => none
    | _ => none
  | .notin, d, .ref n => match S[n]? with
    | some (.lst xs) => (inD S d xs).map noB
    | some (.dik kvs) => d.key.map fun k => noB (getK kvs k).isSome
    | some (.dit kvs) => match d with
      | .tup ds => (D.keys ds).map fun k => noB (getK kvs k).isSome
      | _ => none
    | _ => none
  | _, _, _ => none
def ixD (S : Store) : D → D → Option D
  | .tup xs, .int i => atD xs i
  | .fix xs, .int i => atD xs i
  | .str x, .int i => if small x.length then (atD x.cps.toList i).map fun c => .str ⟨#[c]⟩ else none
  | .ref n, k => match S[n]? with
    | some (.lst xs) => match k with
      | .int i => atD xs i
      | _ => none
    | some (.dik kvs) => match k.key with
      | some q => getK kvs q
      | none => none
    | some (.dit kvs) => match k with
      | .tup ds => match D.keys ds with
        | some q => getK kvs q
        | none => none
      | _ => none
    | none => none
  | _, _ => none
def slD (lo hi : Option Int) : D → Option D
  | .tup xs => some (.tup (cut xs lo hi))
  | .str x => if small x.length then some (.str (L2.cutS x lo hi)) else none
  | _ => none
def setD (S : Store) : D → D → D → Option Store
  | .ref n, k, v => match S[n]? with
    | some (.lst xs) => match k with
      | .int i => if 0 ≤ i ∧ i < xs.length then some (S.set n (.lst (xs.set i.toNat v))) else none
      | _ => none
    | some (.dik kvs) => match k.key with
      | some q => if small kvs.length then some (S.set n (.dik (setK kvs q v))) else none
      | none => none
    | some (.dit kvs) => match k with
      | .tup ds => match D.keys ds with
        | some q => if small kvs.length then some (S.set n (.dit (setK kvs q v))) else none
        | none => none
      | _ => none
    | _ => none
  | _, _, _ => none
def truthD (S : Store) : D → Option Bool
  | .non => some false
  | .bl b => some b
  | .int i => some (i != 0)
  | .str x => if small x.length then some (x.length != 0) else none
  | .tup xs => some (!xs.isEmpty)
  | .fix xs => some (!xs.isEmpty)
  | .ref n => match S[n]? with
    | some (.lst xs) => some (!xs.isEmpty)
    | _ => none
def reprD (S : Store) (d : D) : Option D := match pyOk S d with
  | some p => if p.showable && small p.shown.length then some (.str p.shown) else none
  | none => none
def bltD (S : Store) : B → List D → Option D
  | .len, [.tup xs] => some (.int xs.length)
  | .len, [.fix xs] => some (.int xs.length)
  | .len, [.str x] => if small x.length then some (.int x.length) else none
  | .len, [.ref n] => match S[n]? with
    | some (.lst xs) => some (.int xs.length)
    | some (.dik kvs) => some (.int kvs.length)
    | _ => none
  | .repr, [d] => reprD S d
  | .int, [.int i] => some (.int i)
  | .int, [.bl b] => some (.int (if b then 1 else 0))
  | .str, [.int i] => if decide (i.natAbs.log2 < 1920) then some (.str (toString i)) else none
  | .abs, [.int i] => some (.int (if i < 0 then -i else i))
  | _, _ => none
def isiD (S : Store) : B → D → Option Bool
  | .isInt, .int _ => some true
  | .isInt, .bl _ => some true
  | .isInt, .ref n => match S[n]? with
    | some _ => some false
    | none => none
  | .isInt, _ => some false
  | .isBool, .bl _ => some true
  | .isBool, .ref n => match S[n]? with
    | some _ => some false
    | none => none
  | .isBool, _ => some false
  | .isStr, .str _ => some true
  | .isStr, .ref n => match S[n]? with
    | some _ => some false
    | none => none
  | .isStr, _ => some false
  | .isTup, .tup _ => some true
  | .isTup, .ref n => match S[n]? with
    | some _ => some false
    | none => none
  | .isTup, _ => some false
  | .isList, .fix _ => some true
  | .isList, .ref n => match S[n]? with
    | some (.lst _) => some true
    | some _ => some false
    | none => none
  | .isList, _ => some false
  | _, _ => none
def conD : C → List D → Option D
  | .tup, xs => some (.tup xs)
  | .all, xs => (asBools xs).map fun b => .bl (b.all id)
  | .any, xs => (asBools xs).map fun b => .bl (b.any id)
  | .len, xs => some (.int xs.length)
  | .sum, xs => (asInts xs).map fun b => .int b.sum
  | .min, xs => match asInts xs with
    | some (i :: r) => some (.int (r.foldl (fun a b => if b < a then b else a) i))
    | _ => none
  | .max, xs => match asInts xs with
    | some (i :: r) => some (.int (r.foldl (fun a b => if a < b then b else a) i))
    | _ => none
  | _, _ => none
def methD (S : Store) : M → D → List D → Option (D × Store)
  | .append, .ref n, [d] => match S[n]? with
    | some (.lst xs) => if small xs.length then some (.non, S.set n (.lst (xs ++ [d]))) else none
    | _ => none
  | .pop, .ref n, [] => match S[n]? with
    | some (.lst xs) => match xs.getLast? with
      | some d => some (d, S.set n (.lst xs.dropLast))
      | none => none
    | _ => none
  | .popAt, .ref n, [.int i] => match S[n]? with
    | some (.lst xs) => if 0 ≤ i ∧ i < xs.length ∧ xs.length ≤ 1000000 then (xs[i.toNat]?).map fun d => (d, S.set n (.lst (xs.eraseIdx i.toNat))) else none
    | _ => none
  | _, _, _ => none

/-! ### running -/
def wipe (r : Env) : List Nat → Env
  | [] => r
  | v :: vs => (wipe r vs).set v none
def still (S : Store) : Option (Nat × List D) → Bool
  | none => true
  | some (n, xs) => decide (S[n]? = some (.lst xs))
def forGo (body : D → Env → Store → Res Out) (g : Option (Nat × List D)) : List D → Env → Store → Res Out
  | [], r, s => if still s g then .ok (.nx r) s else .bad
  | d :: ds, r, s => if still s g then match body d r s with
    | .ok (.nx r') s' => forGo body g ds r' s'
    | .ok (.ct r') s' => forGo body g ds r' s'
    | .ok (.bk r') s' => .ok (.nx r') s'
    | .ok (.rt d) s' => .ok (.rt d) s'
    | .exc x s' => .exc x s'
    | .bad => .bad
  else .bad
/-- step tells the thing that is kept, if one is -/
def compGo (step : D → Store → Res (Option D)) (g : Option (Nat × List D)) : List D → List D → Store → Res (List D)
  | [], acc, s => if still s g then .ok acc s else .bad
  | d :: ds, acc, s => if still s g then match step d s with
    | .ok none s' => compGo step g ds acc s'
    | .ok (some v) s' => if small acc.length then compGo step g ds (acc ++ [v]) s' else .bad
    | _ => .bad
  else .bad
def whlGo (c : Env → Store → Res Bool) (body : Env → Store → Res Out) : Nat → Env → Store → Res Out
  | 0, _, _ => .bad
  | n + 1, r, s => (c r s).bind fun b s1 => if b then match body r s1 with
    | .ok (.nx r') s' => whlGo c body n r' s'
    | .ok (.ct r') s' => whlGo c body n r' s'
    | .ok (.bk r') s' => .ok (.nx r') s'
    | .ok (.rt d) s' => .ok (.rt d) s'
    | .exc x s' => .exc x s'
    | .bad => .bad
  else .ok (.nx r) s1
def alloc (o : O) (s : Store) : Res D := .ok (.ref s.length) (s ++ [o])
def look (r : Env) (i : Nat) : Option D := match r[i]? with
  | some (some d) => some d
  | _ => none
section
variable (cl : Nat → List D → Store → Res D)
mutual
def evE : E → Env → Store → Res D
  | .var i, r, s => Res.opt s (look r i)
  | .lit d, _, s => .ok d s
  | .tup es, r, s => (evEs es r s).bind fun ds s1 => if small ds.length then .ok (.tup ds) s1 else .bad
  | .op o a b, r, s => (evE a r s).bind fun x s1 => (evE b r s1).bind fun y s2 => match opD s2 o x y with
    | some (z, s3) => .ok z s3
    | none => .bad
  | .cp o a b, r, s => (evE a r s).bind fun x s1 => (evE b r s1).bind fun y s2 => Res.opt s2 (cpD s2 o x y)
  | .cpL neg a b, r, s => (evL a r s).bind fun x s1 => (evL b r s1).bind fun y s2 => if heldL a s1 s2 then Res.opt s2 ((eqL s2 x y).map fun k => .bl (if neg then !k else k)) else .bad
  | .chain o p a b c, r, s => (evE a r s).bind fun x s1 => (evE b r s1).bind fun y s2 => match cpD s2 o x y with
    | some (.bl true) => (evE c r s2).bind fun z s3 => Res.opt s3 (cpD s3 p y z)
    | some (.bl false) => .ok (.bl false) s2
    | _ => .bad
  | .neg a, r, s => (evE a r s).bind fun x s1 => match x with
    | .int i => .ok (.int (-i)) s1
    | _ => .bad
  | .not a, r, s => (evE a r s).bind fun x s1 => Res.opt s1 ((truthD s1 x).map noB)
  | .and a b, r, s => (evE a r s).bind fun x s1 => match x with
    | .bl true => evE b r s1
    | .bl false => .ok (.bl false) s1
    | _ => .bad
  | .or a b, r, s => (evE a r s).bind fun x s1 => match x with
    | .bl false => evE b r s1
    | .bl true => .ok (.bl true) s1
    | _ => .bad
  | .ite c a b, r, s => (evT c r s).bind fun k s1 => if k then evE a r s1 else evE b r s1
  | .ix a i, r, s => (evE a r s).bind fun x s1 => (evE i r s1).bind fun y s2 => Res.opt s2 (ixD s2 x y)
  | .sl a lo hi, r, s => (evE a r s).bind fun x s1 => (evO lo r s1).bind fun l s2 => (evO hi r s2).bind fun h s3 => match listAt s3 x with
    | some xs => alloc (.lst (cut xs l h)) s3
    | none => Res.opt s3 (slD l h x)
  | .call f es, r, s => (evEs es r s).bind fun ds s1 => cl f ds s1
  | .blt b es, r, s => (evEs es r s).bind fun ds s1 => Res.opt s1 (bltD s1 b ds)
  | .con c l, r, s => (evL l r s).bind fun ds s1 => Res.opt s1 (conD c ds)
  | .tupRng a b, r, s => (evE a r s).bind fun x s1 => (evE b r s1).bind fun y s2 => match x, y with
    | .int i, .int j => if rngOk i j then .ok (.tup (rngL i j)) s2 else .bad
    | _, _ => .bad
  | .newL l, r, s => (evL l r s).bind fun ds s1 => alloc (.lst ds) s1
  | .newD, _, s => alloc (.dik []) s
  | .newT, _, s => alloc (.dit []) s
  | .dic kvs, r, s => (evKs kvs r s).bind fun ps s1 => if ps.length ≤ 15 then alloc (.dik (ps.foldl (fun a p => setK a (.inr p.1) p.2) [])) s1 else .bad
  | .meth m o es, r, s => (evE o r s).bind fun x s1 => if (lstAt s1 x).isSome then (evEs es r s1).bind fun ds s2 => match methD s2 m x ds with
    | some (z, s3) => .ok z s3
    | none => .bad
  else .bad
  | .ext o l, r, s => (evE o r s).bind fun x s1 => if (lstAt s1 x).isSome then (evL l r s1).bind fun ds s2 => match x with
    | .ref n => match s2[n]? with
      | some (.lst xs) => if small (xs.length + ds.length) then .ok .non (s2.set n (.lst (xs ++ ds))) else .bad
      | _ => .bad
    | _ => .bad
  else .bad
  | .isi b e, r, s => (evE e r s).bind fun x s1 => Res.opt s1 ((isiD s1 b x).map .bl)
def evT : E → Env → Store → Res Bool
  | .not a, r, s => (evT a r s).bind fun x s1 => .ok (!x) s1
  | .and a b, r, s => (evT a r s).bind fun x s1 => if x then evT b r s1 else .ok false s1
  | .or a b, r, s => (evT a r s).bind fun x s1 => if x then .ok true s1 else evT b r s1
  | .var i, r, s => Res.opt s ((look r i).bind (truthD s))
  | .cp o a b, r, s => (evE a r s).bind fun x s1 => (evE b r s1).bind fun y s2 => Res.opt s2 ((cpD s2 o x y).bind asBool)
  | .cpL neg a b, r, s => (evL a r s).bind fun x s1 => (evL b r s1).bind fun y s2 => if heldL a s1 s2 then Res.opt s2 ((eqL s2 x y).map fun k => if neg then !k else k) else .bad
  | .chain o p a b c, r, s => (evE a r s).bind fun x s1 => (evE b r s1).bind fun y s2 => match cpD s2 o x y with
    | some (.bl true) => (evE c r s2).bind fun z s3 => Res.opt s3 ((cpD s3 p y z).bind asBool)
    | some (.bl false) => .ok false s2
    | _ => .bad
  | .ix a i, r, s => (evE a r s).bind fun x s1 => (evE i r s1).bind fun y s2 => Res.opt s2 ((ixD s2 x y).bind (truthD s2))
  | .call f es, r, s => (evEs es r s).bind fun ds s1 => (cl f ds s1).bind fun d s2 => Res.opt s2 (truthD s2 d)
  | .blt b es, r, s => (evEs es r s).bind fun ds s1 => Res.opt s1 ((bltD s1 b ds).bind (truthD s1))
  | .con c l, r, s => (evL l r s).bind fun ds s1 => Res.opt s1 ((conD c ds).bind (truthD s1))
  | .lit d, _, s => Res.opt s (truthD s d)
  | .isi b e, r, s => (evE e r s).bind fun x s1 => Res.opt s1 (isiD s1 b x)
  | _, _, _ => .bad
def evEs : List E → Env → Store → Res (List D)
  | [], _, s => .ok [] s
  | e :: es, r, s => (evE e r s).bind fun x s1 => (evEs es r s1).bind fun xs s2 => .ok (x :: xs) s2
def evKs : List (Str × E) → Env → Store → Res (List (Str × D))
  | [], _, s => .ok [] s
  | (k, e) :: es, r, s => (evE e r s).bind fun x s1 => (evKs es r s1).bind fun xs s2 => .ok ((k, x) :: xs) s2
def evO : Option E → Env → Store → Res (Option Int)
  | none, _, s => .ok none s
  | some e, r, s => (evE e r s).bind fun x s1 => match x with
    | .int i => .ok (some i) s1
    | _ => .bad
def evL : Ls → Env → Store → Res (List D)
  | .of e, r, s => (evE e r s).bind fun x s1 => Res.opt s1 (seqAt s1 x)
  | .ofl e, r, s => (evE e r s).bind fun x s1 => Res.opt s1 (lstAt s1 x)
  | .disp es, r, s => (evEs es r s).bind fun ds s1 => if small ds.length then .ok ds s1 else .bad
  | .comp own t it c e, r, s => (evIt it r s).bind fun p s1 => compGo (fun d s2 => (asT t d (wipe r own) s2).bind fun r3 s3 => (evC c r3 s3).bind fun k s4 => if k then (evE e r3 s4).bind fun v s5 => .ok (some v) s5 else .ok none s4) p.2 p.1 [] s1
  | .list l, r, s => evL l r s
  | .rng a b, r, s => (evE a r s).bind fun x s1 => (evE b r s1).bind fun y s2 => match x, y with
    | .int i, .int j => if rngOk i j then .ok (rngL i j) s2 else .bad
    | _, _ => .bad
  | .sorted l, r, s => (evL l r s).bind fun ds s1 => Res.opt s1 (sortD ds)
  | .sortedSet l, r, s => (evL l r s).bind fun ds s1 => Res.opt s1 (sortSetD ds)
  | .cat a b, r, s => (evL a r s).bind fun x s1 => (evL b r s1).bind fun y s2 => if heldL a s1 s2 && small (x.length + y.length) then .ok (x ++ y) s2 else .bad
  | .rep a n, r, s => (evL a r s).bind fun x s1 => (evE n r s1).bind fun y s2 => match y with
    | .int k => if heldL a s1 s2 && decide (x.length ≤ 1000) && decide (-1000 ≤ k) && decide (k ≤ 1000) then .ok (List.replicate k.toNat x).flatten s2 else .bad
    | _ => .bad
  | .sl a lo hi, r, s => (evE a r s).bind fun x s1 => (evO lo r s1).bind fun l s2 => (evO hi r s2).bind fun h s3 => Res.opt s3 ((seqAt s3 x).map fun xs => cut xs l h)
def evIt : It → Env → Store → Res (List D × Option (Nat × List D))
  | .of e, r, s => (evE e r s).bind fun x s1 => match x with
    | .tup xs => .ok (xs, none) s1
    | .fix xs => .ok (xs, none) s1
    | .str z => .ok (z.cps.toList.map fun c => .str ⟨#[c]⟩, none) s1
    | .ref n => match s1[n]? with
      | some (.lst xs) => .ok (xs, some (n, xs)) s1
      | _ => .bad
    | _ => .bad
  | .ofL l, r, s => (evL l r s).bind fun xs s1 => .ok (xs, none) s1
  | .rng a b, r, s => (evE a r s).bind fun x s1 => (evE b r s1).bind fun y s2 => match x, y with
    | .int i, .int j => if rngOk i j then .ok (rngL i j, none) s2 else .bad
    | _, _ => .bad
  | .enum e, r, s => (evE e r s).bind fun x s1 => match x with
    | .tup xs => .ok (enumL 0 xs, none) s1
    | _ => .bad
  | .zip a b, r, s => (evE a r s).bind fun x s1 => (evE b r s1).bind fun y s2 => match x, y with
    | .tup xs, .tup ys => .ok (zipL xs ys, none) s2
    | _, _ => .bad
def evC : Option E → Env → Store → Res Bool
  | none, _, s => .ok true s
  | some e, r, s => evT e r s
def asT : T → D → Env → Store → Res Env
  | .name i, d, r, s => .ok (r.set i (some d)) s
  | .tup ts, d, r, s => match d with
    | .tup xs => if xs.length = ts.length then asTs ts xs r s else .bad
    | _ => .bad
  | .sub o i, d, r, s => (evE o r s).bind fun x s1 => (evE i r s1).bind fun y s2 => match setD s2 x y d with
    | some s3 => .ok r s3
    | none => .bad
def asTs : List T → List D → Env → Store → Res Env
  | [], _, r, s => .ok r s
  | t :: ts, ds, r, s => match ds with
    | d :: ds => (asT t d r s).bind fun r1 s1 => asTs ts ds r1 s1
    | [] => .bad
end
variable (F : Nat)
mutual
def evS : S → Env → Store → Res Out
  | .asg t e, r, s => (evE cl e r s).bind fun d s1 => (asT cl t d r s1).bind fun r2 s2 => .ok (.nx r2) s2
  | .ex e, r, s => (evE cl e r s).bind fun _ s1 => .ok (.nx r) s1
  | .ret e, r, s => (evE cl e r s).bind fun d s1 => .ok (.rt d) s1
  | .retN, _, s => .ok (.rt .non) s
  | .ite c a b, r, s => (evT cl c r s).bind fun k s1 => if k then evSs a r s1 else evSs b r s1
  | .for_ t it b, r, s => (evIt cl it r s).bind fun p s1 => forGo (fun d r2 s2 => (asT cl t d r2 s2).bind fun r3 s3 => evSs b r3 s3) p.2 p.1 r s1
  | .whl c b, r, s => whlGo (evT cl c) (evSs b) F r s
  | .par i j a b, r, s => (evE cl a r s).bind fun x s1 => (evE cl b r s1).bind fun y s2 => .ok (.nx ((r.set i (some x)).set j (some y))) s2
  | .par3 i j l a b c, r, s => (evE cl a r s).bind fun x s1 => (evE cl b r s1).bind fun y s2 => (evE cl c r s2).bind fun z s3 => .ok (.nx (((r.set i (some x)).set j (some y)).set l (some z))) s3
  | .pass, r, s => .ok (.nx r) s
  | .brk, r, s => .ok (.bk r) s
  | .cnt, r, s => .ok (.ct r) s
def evSs : List S → Env → Store → Res Out
  | [], r, s => .ok (.nx r) s
  | st :: sts, r, s => (evS st r s).bind fun o s1 => match o with
    | .nx r1 => evSs sts r1 s1
    | .rt d => .ok (.rt d) s1
    | .bk r1 => .ok (.bk r1) s1
    | .ct r1 => .ok (.ct r1) s1
end
end
/-- what was made on the way and is not handed out is forgotten -/
def okOld (s t : Store) : Bool := decide (t = s) || t.all fun o => o.under s.length
def gc (s : Store) (d : D) (s' : Store) : Res D :=
  if okOld s (s'.take s.length) then
    if d.under s.length then .ok d (s'.take s.length)
    else match d with
      | .ref n => match s'[n]? with
        | some o => if o.under s.length then .ok (.ref s.length) (s'.take s.length ++ [o]) else .ok d s'
        | none => .ok d s'
      | _ => .ok d s'
  else .ok d s'
def call (P : List Fn) (F : Nat) : Nat → Nat → List D → Store → Res D
  | 0, _, _, _ => .bad
  | k + 1, f, ds, s => match P[f]? with
    | none => .bad
    | some fn => if ds.length = fn.np then (evSs (call P F k) F fn.body (ds.map some ++ List.replicate (fn.nn - fn.np) none) s).bind fun o s1 => match o with
      | .rt d => gc s d s1
      | .nx _ => gc s .non s1
      | _ => .bad
    else .bad
end Wb

/-! W2: from the text's trees to the code. -/
namespace Wb
open PySem

/-- what the module holds: its defs' names by number, its plain constants -/
structure Gm where
  fns : List Str
  cons : List (Str × D)
  /-- built-ins that the module leaves alone -/
  blt : List Str
def ixOf (N : List Str) (x : Str) : Option Nat := N.findIdx? fun y => decide (y = x)
def visB (sc : Scope) (x : Str) : Bool := match sc.names.lookup x with
  | some .local => true
  | some .cell => true
  | some .free => true
  | _ => false
def locB (sc : Scope) (x : Str) : Bool := match sc.names.lookup x with
  | some .local => true
  | some .cell => true
  | _ => false
def isLoc (sc : Scope) (x : Str) : Bool := match sc.names.lookup x with
  | some .local => true
  | _ => false
def glB (sc : Scope) (x : Str) : Bool := match sc.names.lookup x with
  | some .globalImplicit => true
  | _ => false
def plainName (x : Str) : Bool := !(x == ("__debug__" : Str)) && !(x == ("__classdict__" : Str))
def opOf : Operator → Option Op
  | .Add => some .add
  | .Sub => some .sub
  | .Mult => some .mul
  | .FloorDiv => some .fdiv
  | .Mod => some .mod
  | .Pow => some .pow
  | .LShift => some .shl
  | .RShift => some .shr
  | .BitAnd => some .band
  | _ => none
def cpOf : CmpOp → Cp
  | .Eq => .eq
  | .NotEq => .ne
  | .Lt => .lt
  | .LtE => .le
  | .Gt => .gt
  | .GtE => .ge
  | .Is => .is
  | .IsNot => .isnt
  | .In => .isin
  | .NotIn => .notin
/-- a call of a built-in by its name -/
def bCall (sc : Scope) (x : Str) : Expr → Option (List Expr)
  | .Call (.Name f _) es [] _ => if f = x ∧ glB sc x = true then some es else none
  | _ => none
/-- trees that make a new list -/
def listy (sc : Scope) : Nat → Expr → Bool
  | 0, _ => false
  | n + 1, e => match e with
    | .ListComp .. => true
    | .List .. => true
    | .Call (.Name f _) _ [] _ => glB sc f && (f == ("list" : Str) || f == ("sorted" : Str))
    | .BinOp a .Add b _ => listy sc n a || listy sc n b
    | .BinOp a .Mult _ _ => listy sc n a
    | _ => false
def isSet : Expr → Bool
  | .Set .. => true
  | _ => false
def isSlice : Expr → Bool
  | .Slice .. => true
  | _ => false
def isCall : Expr → Bool
  | .Call .. => true
  | _ => false
def isStar : Expr → Bool
  | .Starred .. => true
  | _ => false
/-- the block's own names with their places -/
def ownOf (N : List Str) (scope : Scope) : List (Str × Nat) := scope.names.filterMap fun p => match p.2 with
  | .local => (ixOf N p.1).map fun i => (p.1, i)
  | .cell => (ixOf N p.1).map fun i => (p.1, i)
  | _ => none
def c1 (id : Str) : Option C :=
  if id = ("tuple" : Str) then some .tup else if id = ("all" : Str) then some .all else if id = ("any" : Str) then some .any
  else if id = ("sum" : Str) then some .sum else none
def kindB (id : Str) : Option B :=
  if id = ("int" : Str) then some .isInt else if id = ("bool" : Str) then some .isBool else if id = ("str" : Str) then some .isStr
  else if id = ("tuple" : Str) then some .isTup else if id = ("list" : Str) then some .isList else none
def methOf (m : Str) (k : Nat) : Option M :=
  if m = ("append" : Str) ∧ k = 1 then some .append
  else if m = ("pop" : Str) ∧ k = 0 then some .pop else if m = ("pop" : Str) ∧ k = 1 then some .popAt else none
def strKey : Option Expr → Option Str
  | some (.Constant (.str x) _ _) => some x
  | _ => none
/-- what has been compiled of what is smaller -/
structure Rc where
  e : List Str → Scope → Expr → Option E
  o : List Str → Scope → Option Expr → Option (Option E)
  l : List Str → Scope → Expr → Option Ls
  ll : List Str → Scope → Expr → Option Ls
  i : List Str → Scope → List Expr → Option (Option E)
  it : List Str → Scope → Expr → Expr → Option It
  t : List Str → Scope → (Str → Bool) → Expr → Option T
def two {α β γ : Type} (f : α → β → γ) (a : Option α) (b : Option β) : Option γ := match a, b with
  | some x, some y => some (f x y)
  | _, _ => none
def three {α β γ δ : Type} (f : α → β → γ → δ) (a : Option α) (b : Option β) (c : Option γ) : Option δ := match a, b, c with
  | some x, some y, some z => some (f x y z)
  | _, _, _ => none
def ifO {α : Type} (b : Bool) (a : Option α) : Option α := if b = true then a else none
/-- of the kind k at least -/
def kdO (k : Nat) (a : Option Ls) : Option Ls := match a with
  | some l => if k ≤ l.kd then some l else none
  | none => none
section
variable (G : Gm) (r : Rc) (N : List Str) (sc : Scope)
def gB (f : Str) : Bool := glB sc f && G.blt.contains f
def eName (x : Str) : Option E := ifO (plainName x) (if visB sc x then (ixOf N x).map .var else ifO (glB sc x) ((G.cons.lookup x).map .lit))
def eConst : Const → Option E
  | .int i => some (.lit (.int i))
  | .bool b => some (.lit (.bl b))
  | .none => some (.lit .non)
  | .str x => some (.lit (.str x))
  | _ => none
def eBool : BoolOp → List Expr → Pos → Option E
  | _, [a], _ => r.e N sc a
  | .And, a :: b :: rest, p => two .and (r.e N sc a) (r.e N sc (.BoolOp .And (b :: rest) p))
  | .Or, a :: b :: rest, p => two .or (r.e N sc a) (r.e N sc (.BoolOp .Or (b :: rest) p))
  | _, _, _ => none
def isEqs (o : CmpOp) : Bool := decide (o = .Eq) || decide (o = .NotEq)
def eCmp1 (o : CmpOp) (a b : Expr) : Option E := ifO (!isSet b) (if (listy sc 9 a || listy sc 9 b) && isEqs o then two (.cpL (decide (o = .NotEq))) (kdO 1 (r.ll N sc a)) (kdO 1 (r.ll N sc b))
  else two (.cp (cpOf o)) (r.e N sc a) (r.e N sc b))
def rng2 : List Expr → Option (E × E)
  | [x] => (r.e N sc x).map fun y => (.lit (.int 0), y)
  | [x, y] => two Prod.mk (r.e N sc x) (r.e N sc y)
  | _ => none
def bRange (e : Expr) : Option (List Expr) := match e with
  | .Call (.Name f _) es [] _ => if f = ("range" : Str) ∧ gB G sc f = true ∧ es.any isStar = false then some es else none
  | _ => none
def isRange (e : Expr) : Bool := match e with
  | .Call (.Name f _) _ _ _ => f == ("range" : Str)
  | _ => false
def bOf1 (f : Str) : Option B :=
  if f = ("len" : Str) then some .len else if f = ("repr" : Str) then some .repr else if f = ("int" : Str) then some .int
  else if f = ("str" : Str) then some .str else if f = ("abs" : Str) then some .abs else none
def eCall1 (e : Expr) (f : Str) (a : Expr) : Option E := ifO (gB G sc f && !isStar a) (
  if f = ("list" : Str) ∨ f = ("sorted" : Str) then (kdO 2 (r.l N sc e)).map .newL
  else if f = ("len" : Str) ∧ listy sc 9 a = true then (r.l N sc a).map (.con .len)
  else match c1 f with
    | some c => match bRange G sc a with
      | some es => ifO (decide (c = .tup)) ((rng2 r N sc es).map fun p => .tupRng p.1 p.2)
      | none => ifO (!isRange a) ((kdO (if c = .tup then 0 else 1) (r.l N sc a)).map (.con c))
    | none => match bOf1 f with
      | some bn => (r.e N sc a).map fun x => .blt bn [x]
      | none => none)
def eCall (e : Expr) (f : Str) (args : List Expr) : Option E := ifO (glB sc f && !args.any isStar && !(f == ("__debug__" : Str))) (match ixOf G.fns f with
  | some k => (mapO (r.e N sc) args).map (.call k)
  | none => match args with
    | [a] => eCall1 G r N sc e f a
    | [a, .Name t _] => ifO (decide (f = ("isinstance" : Str)) && gB G sc f && gB G sc t) (match kindB t with
      | some k => (r.e N sc a).map (.isi k)
      | none => none)
    | _ => none)
def eMeth1 (o : Expr) (m : Str) (a : Expr) : Option E := ifO (!isCall o && !isStar a) (if m = ("extend" : Str) then two .ext (r.e N sc o) (kdO 1 (r.ll N sc a))
  else match methOf m 1 with
    | some k => two (fun x y => .meth k x [y]) (r.e N sc o) (r.e N sc a)
    | none => none)
def eDict (k : List (Option Expr)) (vs : List Expr) : Option E := match k with
  | [] => match vs with
    | [] => some .newD
    | _ => none
  | k :: ks => match mapO strKey (k :: ks), mapO (r.e N sc) vs with
    | some xs, some ys => ifO (decide (xs.length = ys.length) && decide (xs.length ≤ 15)) (some (.dic (xs.zip ys)))
    | _, _ => none
def stepE0 (e : Expr) : Option E := match e with
  | .Name x _ => eName G N sc x
  | .Constant k _ _ => eConst k
  | .Tuple es _ _ => ifO (!es.any isStar) ((mapO (r.e N sc) es).map .tup)
  | .BinOp a o b _ => if listy sc 9 e = true then (kdO 2 (r.l N sc e)).map .newL else match opOf o with
    | some o => two (.op o) (r.e N sc a) (r.e N sc b)
    | none => none
  | .UnaryOp .Not a _ => (r.e N sc a).map .not
  | .UnaryOp .USub a _ => (r.e N sc a).map .neg
  | .BoolOp o es p => eBool r N sc o es p
  | .Compare a [o] [b] _ => eCmp1 r N sc o a b
  | .Compare a [o, p] [b, c] _ => ifO (!isSet b && !isSet c) (three (.chain (cpOf o) (cpOf p)) (r.e N sc a) (r.e N sc b) (r.e N sc c))
  | .IfExp c a b _ => three .ite (r.e N sc c) (r.e N sc a) (r.e N sc b)
  | .Subscript a (.Slice lo hi none _) _ => three .sl (r.e N sc a) (r.o N sc lo) (r.o N sc hi)
  | .Subscript a i _ => ifO (!isSlice i) (two .ix (r.e N sc a) (r.e N sc i))
  | .ListComp .. => (kdO 2 (r.l N sc e)).map .newL
  | .List .. => (kdO 2 (r.l N sc e)).map .newL
  | .Dict ks vs _ => eDict r N sc ks vs
  | .Call (.Name f _) args [] _ => eCall G r N sc e f args
  | .Call (.Attribute o m ap) [a] [] cp => ifO (ap.endLine == cp.line) (eMeth1 r N sc o m a)
  | .Call (.Attribute o m ap) [] [] cp => ifO ((ap.endLine == cp.line) && !isCall o && decide (m = ("pop" : Str))) ((r.e N sc o).map fun x => .meth .pop x [])
  | _ => none
/-- trees whose truth is their value's -/
def genE : Expr → Bool
  | .UnaryOp .Not _ _ => false
  | .BoolOp .. => false
  | .IfExp .. => false
  | .Compare .. => false
  | _ => true
def plainC : E → Bool
  | .not _ => false
  | .and _ _ => false
  | .or _ _ => false
  | .cp _ _ _ => false
  | .cpL _ _ _ => false
  | .chain _ _ _ _ _ => false
  | _ => true
def stepE (e : Expr) : Option E := match stepE0 G r N sc e with
  | some c => if genE e && !plainC c then none else some c
  | none => none
def stepO (e : Option Expr) : Option (Option E) := match e with
  | none => some none
  | some e => (r.e N sc e).map some
def lComp (elt tg iter : Expr) (ifs : List Expr) (scope : Scope) : Option Ls := ifO (L2.blkC N sc scope (ownOf N scope) && !isSet iter)
  (match r.t N (L2.relS scope sc) (fun x => scope.names.lookup x == some .cell) tg, r.it N sc tg iter, r.i N (L2.relS scope sc) ifs, r.e N (L2.relS scope sc) elt with
    | some t, some i, some c, some x => ifO (t.ids.all fun j => ((ownOf N scope).map (·.2)).contains j) (some (.comp ((ownOf N scope).map (·.2)) t i c x))
    | _, _, _, _ => none)
def bSet (e : Expr) : Option Expr := match e with
  | .Call (.Name f _) [x] [] _ => if f = ("set" : Str) ∧ gB G sc f = true ∧ isStar x = false then some x else none
  | _ => none
def lCall (e : Expr) (f : Str) (a : Expr) : Option Ls :=
  if f = ("list" : Str) then ifO (gB G sc f && !isStar a) (match bRange G sc a with
    | some es => (rng2 r N sc es).map fun p => .rng p.1 p.2
    | none => ifO (!isRange a) ((r.l N sc a).map .list))
  else if f = ("sorted" : Str) then ifO (gB G sc f && !isStar a) (match bSet G sc a with
    | some x => (kdO 1 (r.ll N sc x)).map .sortedSet
    | none => (kdO 1 (r.ll N sc a)).map .sorted)
  else (r.e N sc e).map .of
/-- a new list, or what is read as one -/
def stepL (e : Expr) : Option Ls := match e with
  | .ListComp elt [⟨tg, iter, ifs, 0⟩] scope _ => lComp r N sc elt tg iter ifs scope
  | .List es _ => ifO (!es.any isStar) ((mapO (r.e N sc) es).map .disp)
  | .BinOp a .Add b _ => if listy sc 9 e = true then two .cat (kdO 1 (r.ll N sc a)) (kdO 1 (r.ll N sc b)) else (r.e N sc e).map .of
  | .BinOp a .Mult b _ => if listy sc 9 e = true then two .rep (kdO 1 (r.ll N sc a)) (r.e N sc b) else (r.e N sc e).map .of
  | .Call (.Name f _) [a] [] _ => lCall G r N sc e f a
  | .Subscript a (.Slice lo hi none _) _ => three .sl (r.e N sc a) (r.o N sc lo) (r.o N sc hi)
  | _ => (r.e N sc e).map .of
/-- a list, never a tuple -/
def stepLl (e : Expr) : Option Ls := if listy sc 9 e = true then r.l N sc e else (r.e N sc e).map .ofl
def stepIf (e : List Expr) : Option (Option E) := match e with
  | [] => some none
  | [c] => (r.e N sc c).map some
  | _ => none
def isTup : Expr → Bool
  | .Tuple .. => true
  | _ => false
def bZip (e : Expr) : Option (Expr × Expr) := match e with
  | .Call (.Name f _) [a, b] [] _ => if f = ("zip" : Str) ∧ gB G sc f = true ∧ isStar a = false ∧ isStar b = false then some (a, b) else none
  | _ => none
def isZip (e : Expr) : Bool := match e with
  | .Call (.Name f _) _ _ _ => f == ("zip" : Str)
  | _ => false
def stepIt (tg e : Expr) : Option It := ifO (!isSet e) (match bRange G sc e with
  | some es => (rng2 r N sc es).map fun p => .rng p.1 p.2
  | none => if isZip e then (match bZip G sc e with
      | some p => ifO (isTup tg) (two .zip (r.e N sc p.1) (r.e N sc p.2))
      | none => none)
    else ifO (!isRange e) (if listy sc 9 e = true then (kdO 2 (r.l N sc e)).map .ofL else (r.e N sc e).map .of))
def stepT (fb : Str → Bool) (e : Expr) : Option T := match e with
  | .Name x _ => ifO (isLoc sc x || (locB sc x && fb x)) ((ixOf N x).map .name)
  | .Tuple es _ _ => ifO (!es.any isStar) ((mapO (r.t N sc fb) es).map .tup)
  | .Subscript o i _ => ifO (!isSlice i) (two .sub (r.e N sc o) (r.e N sc i))
  | _ => none
end
def rc (G : Gm) : Nat → Rc
  | 0 => ⟨fun _ _ _ => none, fun _ _ _ => none, fun _ _ _ => none, fun _ _ _ => none, fun _ _ _ => none, fun _ _ _ _ => none, fun _ _ _ _ => none⟩
  | n + 1 => ⟨stepE G (rc G n), stepO (rc G n), stepL G (rc G n), stepLl (rc G n), stepIf (rc G n), stepIt G (rc G n), stepT (rc G n)⟩
section
variable (G : Gm)
/-- a pair of plain local names, stored from a written pair -/
def parOf (N : List Str) (sc : Scope) : Expr → Expr → Option (Nat × Nat × Expr × Expr)
  | .Tuple [.Name x px, .Name y py] _ _, .Tuple [a, b] _ _ => if isLoc sc x && isLoc sc y && decide (x ≠ y) && decide (px.line = py.line) && !(foldedForSure 8 a && foldedForSure 8 b) && !(constantsAlone 8 a && constantsAlone 8 b) && !isStar a && !isStar b then
      match ixOf N x, ixOf N y with
      | some i, some j => some (i, j, a, b)
      | _, _ => none
    else none
  | _, _ => none
/-- three of them -/
def parOf3 (N : List Str) (sc : Scope) : Expr → Expr → Option ((Nat × Nat × Nat) × Expr × Expr × Expr)
  | .Tuple [.Name x px, .Name y py, .Name z pz] _ _, .Tuple [a, b, c] _ _ => if isLoc sc x && isLoc sc y && isLoc sc z && decide (x ≠ y) && decide (x ≠ z) && decide (y ≠ z) && decide (px.line = py.line) && decide (px.line = pz.line) && !(foldedForSure 8 a && foldedForSure 8 b && foldedForSure 8 c) && !(constantsAlone 8 a && constantsAlone 8 b && constantsAlone 8 c) && !isStar a && !isStar b && !isStar c then
      match ixOf N x, ixOf N y, ixOf N z with
      | some i, some j, some l => some ((i, j, l), a, b, c)
      | _, _, _ => none
    else none
  | _, _ => none
def isStr : Expr → Bool
  | .Constant (.str _) _ _ => true
  | _ => false
def isComp : Expr → Bool
  | .ListComp .. => true
  | .SetComp .. => true
  | .DictComp .. => true
  | _ => false
def isTgt : Expr → Bool
  | .Name .. => true
  | .Tuple .. => true
  | .Subscript .. => true
  | _ => false
def sAsg (r : Rc) (N : List Str) (sc : Scope) (t e : Expr) : Option S := match t, e with
  | .Name y _, .ListComp elt [⟨tg, iter, ifs, 0⟩] scope _ => ifO (locB sc y) (two (fun i l => .asg (.name i) (.newL l)) (ixOf N y) (lComp r N sc elt tg iter ifs scope))
  | t, e => match parOf N sc t e with
    | some (i, j, a, b) => two (.par i j) (r.e N sc a) (r.e N sc b)
    | none => match parOf3 N sc t e with
      | some ((i, j, l), a, b, c) => three (.par3 i j l) (r.e N sc a) (r.e N sc b) (r.e N sc c)
      | none => ifO (isTgt t && !(isTup t && isTup e) && !isComp e) (two (fun x y => .asg y x) (r.e N sc e) (r.t N sc (fun _ => true) t))
mutual
def cS (r : Rc) (N : List Str) (sc : Scope) : Nat → Stmt → Option S
  | 0, _ => none
  | n + 1, st => match st with
    | .Assign [t] e _ => sAsg r N sc t e
    | .Expr (.Constant (.str _) _ _) _ => some .pass
    | .Expr (.Call f as ks p) _ => (r.e N sc (.Call f as ks p)).map .ex
    | .Return (some e) _ => (r.e N sc e).map .ret
    | .Return none _ => some .retN
    | .If c a b _ => three .ite (r.e N sc c) (cSs r N sc n a) (cSs r N sc n b)
    | .For t it b [] _ => ifO (!isSet it) (three .for_ (r.t N sc (fun _ => true) t) (r.it N sc t it) (cSs r N sc n b))
    | .While c b [] _ => two .whl (r.e N sc c) (cSs r N sc n b)
    | .Pass _ => some .pass
    | .Break _ => some .brk
    | .Continue _ => some .cnt
    | _ => none
def cSs (r : Rc) (N : List Str) (sc : Scope) : Nat → List Stmt → Option (List S)
  | 0, _ => none
  | n + 1, sts => match sts with
    | [] => some []
    | st :: rest => two List.cons (cS r N sc n st) (cSs r N sc n rest)
end
end
end Wb

/-! W3: how plain data and the store lie in the layer's heap. -/
namespace Wb
open PySem L2

/-- a list that nobody writes -/
def FixL (K : PySem.W.Frag) (H : Hp) (a : Addr) (vs : List V) : Prop :=
  (∃ o, H a = some (.frz o (.lst vs))) ∨ ∃ (o : Obj) (its : Array Value) (n : Nat), K.lookup a = some o ∧ o.cls = .type "list" ∧ o.dict = none ∧ o.data = .seq its n ∧ its.size ≤ sizeLine ∧ Vals vs its.toList
theorem FixL.sq {K : PySem.W.Frag} {H : Hp} {a : Addr} {vs : List V} (h : FixL K H a vs) : SqL K H a vs := by
  rcases h with ⟨o, h⟩ | h
  · exact .inl (.inr ⟨o, h⟩)
  · exact .inr h
section
variable (K : PySem.W.Frag) (φ : List Addr) (H : Hp)
mutual
def Rep : D → V → Prop
  | .non, v => v = .non
  | .bl b, v => v = .bl b
  | .int i, v => v = .int i
  | .str x, v => v = .str x
  | .tup ds, v => ∃ a vs, v = .ref a ∧ H a = some (.tup vs) ∧ Reps ds vs
  | .fix ds, v => ∃ a vs, v = .ref a ∧ FixL K H a vs ∧ Reps ds vs
  | .ref n, v => ∃ a, v = .ref a ∧ φ[n]? = some a
def Reps : List D → List V → Prop
  | [], vs => vs = []
  | d :: ds, vs => ∃ v r, vs = v :: r ∧ Rep d v ∧ Reps ds r
end
def KRep {κ : Type} (kvs : List (κ × D)) (ws : List (κ × V)) : Prop := Paired (fun p q => p.1 = q.1 ∧ Rep K φ H p.2 q.2) kvs ws
def ORep : O → Addr → Prop
  | .lst ds, a => ∃ vs, H a = some (.lst vs) ∧ Reps K φ H ds vs
  | .dik kvs, a => ∃ ws, H a = some (.dK ws) ∧ KRep K φ H kvs ws
  | .dit kvs, a => ∃ ws, H a = some (.dT ws) ∧ KRep K φ H kvs ws
structure HS (S : Store) : Prop where
  len : φ.length = S.length
  nd : φ.Nodup
  ob : ∀ (n : Nat) (o : O) (a : Addr), S[n]? = some o → φ[n]? = some a → ORep K φ H o a
def VS (r : Env) (σ : St) : Prop := r.length = σ.length ∧ ∀ (i : Nat) (d : D), r[i]? = some (some d) → ∃ v, σ[i]? = some (some v) ∧ Rep K φ H d v
end
structure Ex (φ : List Addr) (H : Hp) (φ' : List Addr) (H' : Hp) : Prop where
  pre : ∃ ψ, φ' = φ ++ ψ ∧ ∀ a ∈ ψ, H a = none
  keep : ∀ a o, H a = some o → a ∉ φ → H' a = some o
  live : ∀ a, H' a = none → H a = none
section
variable {K : PySem.W.Frag} {φ φ' φ1 φ2 : List Addr} {H H' H1 H2 : Hp} {S S' : Store} {d : D} {v : V} {ds : List D} {vs : List V} {r : Env} {σ : St}
theorem Ex.rfl' : Ex φ H φ H := ⟨⟨[], by simp, by simp⟩, fun _ _ h _ => h, fun _ h => h⟩
theorem Ex.trans (a : Ex φ H φ1 H1) (b : Ex φ1 H1 φ2 H2) : Ex φ H φ2 H2 := by
  obtain ⟨⟨p, rfl, hp⟩, ka, la⟩ := a
  obtain ⟨⟨q, rfl, hq⟩, kb, lb⟩ := b
  refine ⟨⟨p ++ q, by simp, fun a ha => ?_⟩, fun a o h n => kb a o (ka a o h n) fun hm => ?_, fun a h => la a (lb a h)⟩
  · rcases List.mem_append.mp ha with h1 | h1
    · exact hp a h1
    · exact la a (hq a h1)
  · rcases List.mem_append.mp hm with h1 | h1
    · exact n h1
    · rw [hp a h1] at h; cases h
theorem Ex.new {p : Addr} {o : HO} (h : H p = none) : Ex φ H φ (upd H p o) :=
  ⟨⟨[], by simp, by simp⟩, fun a u e _ => by rw [upd_ne (ne_of_none e h)]; exact e, fun a e => by
    by_cases hb : a = p
    · rw [hb, upd_same] at e; cases e
    · rwa [upd_ne hb] at e⟩
theorem Ex.newR {p : Addr} {o : HO} (h : H p = none) : Ex φ H (φ ++ [p]) (upd H p o) :=
  ⟨⟨[p], rfl, fun a ha => by rw [List.mem_singleton.mp ha]; exact h⟩, (Ex.new (φ := φ) h).keep, (Ex.new (φ := φ) h).live⟩
theorem Ex.reg {p : Addr} (e : Ex φ H φ' H') (h : H p = none) : Ex φ H (φ' ++ [p]) H' := by
  obtain ⟨⟨q, rfl, hq⟩, k, l⟩ := e
  exact ⟨⟨q ++ [p], by simp, fun a ha => (List.mem_append.mp ha).elim (hq a) fun z => by rw [List.mem_singleton.mp z]; exact h⟩, k, l⟩
theorem Ex.mut {p : Addr} {o u : HO} (hm : p ∈ φ) (hp : H p = some u) : Ex φ H φ (upd H p o) :=
  ⟨⟨[], by simp, by simp⟩, fun a w e n => by
    have : a ≠ p := fun z => n (z ▸ hm)
    rw [upd_ne this]; exact e, fun a e => by
    by_cases hb : a = p
    · rw [hb, upd_same] at e; cases e
    · rwa [upd_ne hb] at e⟩

theorem HS.obj (h : HS K φ H S) {a : Addr} (hm : a ∈ φ) : ∃ o, ORep K φ H o a := by
  obtain ⟨n, hn, e⟩ := List.mem_iff_getElem.mp hm
  have hs : n < S.length := by rw [← h.len]; exact hn
  exact ⟨S[n], h.ob n S[n] a (List.getElem?_eq_getElem hs) (by rw [List.getElem?_eq_getElem hn, e])⟩
theorem HS.live (h : HS K φ H S) {a : Addr} (hm : a ∈ φ) : H a ≠ none := by
  obtain ⟨o, r⟩ := h.obj hm
  cases o <;> (obtain ⟨_, e, _⟩ := r; rw [e]; simp)
/-- what is read, never written, is no object of the store -/
def Cold : HO → Prop
  | .tup _ => True
  | .frz _ _ => True
  | _ => False
theorem HS.cold (h : HS K φ H S) {a : Addr} {u : HO} (e : H a = some u) (c : Cold u) : a ∉ φ := fun hm => by
  obtain ⟨o, r⟩ := h.obj hm
  cases o <;> (obtain ⟨_, e', _⟩ := r; rw [e] at e'; cases e'; exact c)
theorem sqT_ext (hs : HS K φ H S) (e : Ex φ H φ' H') {a : Addr} {xs : List V} (h : SqT K H a xs) : SqT K H' a xs := by
  rcases h with (h | ⟨o, h⟩) | h
  · exact .inl (.inl (e.keep a _ h (hs.cold h trivial)))
  · exact .inl (.inr ⟨o, e.keep a _ h (hs.cold h trivial)⟩)
  · exact .inr h
theorem fix_ext (hs : HS K φ H S) (e : Ex φ H φ' H') {a : Addr} {xs : List V} (h : FixL K H a xs) : FixL K H' a xs := by
  rcases h with ⟨o, h⟩ | h
  · exact .inl ⟨o, e.keep a _ h (hs.cold h trivial)⟩
  · exact .inr h
mutual
theorem Rep.ext (hs : HS K φ H S) (e : Ex φ H φ' H') : ∀ (d : D) (v : V), Rep K φ H d v → Rep K φ' H' d v
  | .non, v, h => by simpa only [Rep] using h
  | .bl _, v, h => by simpa only [Rep] using h
  | .int _, v, h => by simpa only [Rep] using h
  | .str _, v, h => by simpa only [Rep] using h
  | .tup ds, v, h => by
    simp only [Rep] at h ⊢
    obtain ⟨a, vs, h1, h2, h3⟩ := h
    exact ⟨a, vs, h1, e.keep a _ h2 (hs.cold h2 trivial), Reps.ext hs e ds vs h3⟩
  | .fix ds, v, h => by
    simp only [Rep] at h ⊢
    obtain ⟨a, vs, h1, h2, h3⟩ := h
    exact ⟨a, vs, h1, fix_ext hs e h2, Reps.ext hs e ds vs h3⟩
  | .ref n, v, h => by
    simp only [Rep] at h ⊢
    obtain ⟨a, h1, h2⟩ := h
    obtain ⟨q, rfl, _⟩ := e.pre
    exact ⟨a, h1, by rw [List.getElem?_append_left (List.getElem?_eq_some_iff.mp h2).1]; exact h2⟩
theorem Reps.ext (hs : HS K φ H S) (e : Ex φ H φ' H') : ∀ (ds : List D) (vs : List V), Reps K φ H ds vs → Reps K φ' H' ds vs
  | [], vs, h => by simpa only [Reps] using h
  | d :: ds, vs, h => by
    simp only [Reps] at h ⊢
    obtain ⟨v, r, h1, h2, h3⟩ := h
    exact ⟨v, r, h1, Rep.ext hs e d v h2, Reps.ext hs e ds r h3⟩
end
theorem KRep.ext {κ : Type} (hs : HS K φ H S) (e : Ex φ H φ' H') {kvs : List (κ × D)} {ws : List (κ × V)} (h : KRep K φ H kvs ws) : KRep K φ' H' kvs ws :=
  Paired.mapP h fun p q z => ⟨z.1, Rep.ext hs e _ _ z.2⟩
theorem ORep.ext (hs : HS K φ H S) (e : Ex φ H φ' H') {o : O} {a : Addr} (h : ORep K φ H o a) (k : H' a = H a) : ORep K φ' H' o a := by
  cases o with
  | lst ds => obtain ⟨ws, h1, h2⟩ := h; exact ⟨ws, k.trans h1, Reps.ext hs e _ _ h2⟩
  | dik kvs => obtain ⟨ws, h1, h2⟩ := h; exact ⟨ws, k.trans h1, h2.ext hs e⟩
  | dit kvs => obtain ⟨ws, h1, h2⟩ := h; exact ⟨ws, k.trans h1, h2.ext hs e⟩
theorem VS.ext (hs : HS K φ H S) (e : Ex φ H φ' H') {r : Env} {σ : St} (h : VS K φ H r σ) : VS K φ' H' r σ :=
  ⟨h.1, fun i d hd => let ⟨v, h1, h2⟩ := h.2 i d hd; ⟨v, h1, Rep.ext hs e d v h2⟩⟩
/-- an object is laid and named -/
theorem HS.push (hs : HS K φ H S) {p : Addr} {u : HO} {o : O} (hp : H p = none) (h : ORep K (φ ++ [p]) (upd H p u) o p) : HS K (φ ++ [p]) (upd H p u) (S ++ [o]) := by
  have np : p ∉ φ := fun hm => hs.live hm hp
  have e : Ex φ H (φ ++ [p]) (upd H p u) := Ex.newR hp
  refine ⟨by simp [hs.len], List.nodup_append.mpr ⟨hs.nd, by simp, fun a ha b hb z => np (by rw [List.mem_singleton.mp hb] at z; exact z ▸ ha)⟩, fun n ob a h1 h2 => ?_⟩
  by_cases hn : n < S.length
  · rw [List.getElem?_append_left hn] at h1
    rw [List.getElem?_append_left (by rw [hs.len]; exact hn)] at h2
    refine (hs.ob n ob a h1 h2).ext hs e (upd_ne ?_)
    rintro rfl
    exact np (List.mem_of_getElem? h2)
  · rw [List.getElem?_append_right (by omega)] at h1
    rw [List.getElem?_append_right (by rw [hs.len]; omega)] at h2
    have z : n - S.length = 0 := by
      have := (List.getElem?_eq_some_iff.mp h1).1
      simp at this; omega
    rw [hs.len] at h2
    rw [z] at h1 h2
    simp at h1 h2
    subst h1; subst h2
    exact h
mutual
theorem Rep.more {q : List Addr} : ∀ (d : D) (v : V), Rep K φ H d v → Rep K (φ ++ q) H d v
  | .non, v, h => by simpa only [Rep] using h
  | .bl _, v, h => by simpa only [Rep] using h
  | .int _, v, h => by simpa only [Rep] using h
  | .str _, v, h => by simpa only [Rep] using h
  | .tup ds, v, h => by
    simp only [Rep] at h ⊢
    obtain ⟨a, vs, h1, h2, h3⟩ := h
    exact ⟨a, vs, h1, h2, Reps.more ds vs h3⟩
  | .fix ds, v, h => by
    simp only [Rep] at h ⊢
    obtain ⟨a, vs, h1, h2, h3⟩ := h
    exact ⟨a, vs, h1, h2, Reps.more ds vs h3⟩
  | .ref n, v, h => by
    simp only [Rep] at h ⊢
    obtain ⟨a, h1, h2⟩ := h
    exact ⟨a, h1, by rw [List.getElem?_append_left (List.getElem?_eq_some_iff.mp h2).1]; exact h2⟩
theorem Reps.more {q : List Addr} : ∀ (ds : List D) (vs : List V), Reps K φ H ds vs → Reps K (φ ++ q) H ds vs
  | [], vs, h => by simpa only [Reps] using h
  | d :: ds, vs, h => by
    simp only [Reps] at h ⊢
    obtain ⟨v, r, h1, h2, h3⟩ := h
    exact ⟨v, r, h1, Rep.more d v h2, Reps.more ds r h3⟩
end
theorem ORep.more {q : List Addr} {o : O} {a : Addr} (h : ORep K φ H o a) : ORep K (φ ++ q) H o a := by
  cases o with
  | lst ds => obtain ⟨ws, h1, h2⟩ := h; exact ⟨ws, h1, Reps.more _ _ h2⟩
  | dik kvs => obtain ⟨ws, h1, h2⟩ := h; exact ⟨ws, h1, Paired.mapP h2 fun p q z => ⟨z.1, Rep.more _ _ z.2⟩⟩
  | dit kvs => obtain ⟨ws, h1, h2⟩ := h; exact ⟨ws, h1, Paired.mapP h2 fun p q z => ⟨z.1, Rep.more _ _ z.2⟩⟩
/-- an object of the heap that nothing names is named -/
theorem HS.reg (hs : HS K φ H S) {p : Addr} {o : O} (np : p ∉ φ) (h : ORep K φ H o p) : HS K (φ ++ [p]) H (S ++ [o]) := by
  refine ⟨by simp [hs.len], List.nodup_append.mpr ⟨hs.nd, by simp, fun a ha b hb z => np (by rw [List.mem_singleton.mp hb] at z; exact z ▸ ha)⟩, fun n ob a h1 h2 => ?_⟩
  by_cases hn : n < S.length
  · rw [List.getElem?_append_left hn] at h1
    rw [List.getElem?_append_left (by rw [hs.len]; exact hn)] at h2
    exact (hs.ob n ob a h1 h2).more
  · rw [List.getElem?_append_right (by omega)] at h1
    rw [List.getElem?_append_right (by rw [hs.len]; omega)] at h2
    have z : n - S.length = 0 := by
      have := (List.getElem?_eq_some_iff.mp h1).1
      simp at this; omega
    rw [hs.len] at h2
    rw [z] at h1 h2
    simp at h1 h2
    subst h1; subst h2
    exact h.more
theorem nodup_at {N : List Addr} (hN : N.Nodup) {i j : Nat} {x : Addr} (a : N[i]? = some x) (b : N[j]? = some x) : i = j := by
  obtain ⟨h1, e1⟩ := List.getElem?_eq_some_iff.mp a
  obtain ⟨h2, e2⟩ := List.getElem?_eq_some_iff.mp b
  exact (List.getElem_inj hN).mp (e1.trans e2.symm)
/-- an object is written -/
theorem HS.set (hs : HS K φ H S) {n : Nat} {a : Addr} {u : HO} {o o' : O} (h1 : S[n]? = some o) (h2 : φ[n]? = some a) (h : ORep K φ (upd H a u) o' a) : HS K φ (upd H a u) (S.set n o') := by
  have hm : a ∈ φ := List.mem_of_getElem? h2
  obtain ⟨w, hw⟩ : ∃ w, H a = some w := Option.ne_none_iff_exists'.mp (hs.live hm)
  have e : Ex φ H φ (upd H a u) := Ex.mut hm hw
  refine ⟨by simp [hs.len], hs.nd, fun m ob b h3 h4 => ?_⟩
  by_cases hn : m = n
  · subst hn
    rw [h2] at h4; cases h4
    have hl := (List.getElem?_eq_some_iff.mp h1).1
    rw [List.getElem?_set_self hl] at h3
    cases h3
    exact h
  · rw [List.getElem?_set_ne (Ne.symm hn)] at h3
    refine (hs.ob m ob b h3 h4).ext hs e (upd_ne ?_)
    rintro rfl
    exact hn (nodup_at hs.nd h4 h2)
theorem HS.mutEx (hs : HS K φ H S) {n : Nat} {a : Addr} {u : HO} (h2 : φ[n]? = some a) : Ex φ H φ (upd H a u) := by
  have hm : a ∈ φ := List.mem_of_getElem? h2
  obtain ⟨w, hw⟩ : ∃ w, H a = some w := Option.ne_none_iff_exists'.mp (hs.live hm)
  exact Ex.mut hm hw
theorem HS.sget (hs : HS K φ H S) {n : Nat} {a : Addr} (h : φ[n]? = some a) : ∃ o, S[n]? = some o ∧ ORep K φ H o a := by
  have hl : n < S.length := by rw [← hs.len]; exact (List.getElem?_eq_some_iff.mp h).1
  exact ⟨S[n], List.getElem?_eq_getElem hl, hs.ob n _ a (List.getElem?_eq_getElem hl) h⟩
theorem HS.at_ (hs : HS K φ H S) {n : Nat} {o : O} (h : S[n]? = some o) : ∃ a, φ[n]? = some a ∧ ORep K φ H o a := by
  have hl : n < φ.length := by rw [hs.len]; exact (List.getElem?_eq_some_iff.mp h).1
  exact ⟨φ[n], List.getElem?_eq_getElem hl, hs.ob n o _ h (List.getElem?_eq_getElem hl)⟩
/-! ### lists of data -/
theorem Reps.len : ∀ {ds : List D} {vs : List V}, Reps K φ H ds vs → vs.length = ds.length
  | [], vs, h => by simp only [Reps] at h; rw [h]; rfl
  | d :: ds, vs, h => by
    simp only [Reps] at h
    obtain ⟨v, r, rfl, _, h3⟩ := h
    simp [Reps.len h3]
theorem Reps.app : ∀ {ds es : List D} {vs ws : List V}, Reps K φ H ds vs → Reps K φ H es ws → Reps K φ H (ds ++ es) (vs ++ ws)
  | [], es, vs, ws, h, g => by simp only [Reps] at h; rw [h]; exact g
  | d :: ds, es, vs, ws, h, g => by
    simp only [Reps] at h
    obtain ⟨v, r, rfl, h2, h3⟩ := h
    simp only [List.cons_append, Reps]
    exact ⟨v, r ++ ws, rfl, h2, Reps.app h3 g⟩
theorem Reps.one {d : D} {v : V} (h : Rep K φ H d v) : Reps K φ H [d] [v] := by simp only [Reps]; exact ⟨v, [], rfl, h, rfl⟩
theorem Reps.at_ : ∀ {ds : List D} {vs : List V} {i : Nat} {d : D}, Reps K φ H ds vs → ds[i]? = some d → ∃ v, vs[i]? = some v ∧ Rep K φ H d v
  | [], _, _, _, _, e => by simp at e
  | d :: ds, vs, 0, x, h, e => by
    simp only [Reps] at h
    obtain ⟨v, r, rfl, h2, _⟩ := h
    simp at e; subst e
    exact ⟨v, rfl, h2⟩
  | d :: ds, vs, i + 1, x, h, e => by
    simp only [Reps] at h
    obtain ⟨v, r, rfl, _, h3⟩ := h
    obtain ⟨w, h4, h5⟩ := Reps.at_ (i := i) h3 (by simpa using e)
    exact ⟨w, by simpa using h4, h5⟩
theorem Reps.atV : ∀ {ds : List D} {vs : List V} {i : Nat} {v : V}, Reps K φ H ds vs → vs[i]? = some v → ∃ d, ds[i]? = some d ∧ Rep K φ H d v
  | [], vs, i, v, h, e => by simp only [Reps] at h; rw [h] at e; simp at e
  | d :: ds, vs, 0, x, h, e => by
    simp only [Reps] at h
    obtain ⟨v, r, rfl, h2, _⟩ := h
    simp at e; subst e
    exact ⟨d, rfl, h2⟩
  | d :: ds, vs, i + 1, x, h, e => by
    simp only [Reps] at h
    obtain ⟨v, r, rfl, _, h3⟩ := h
    obtain ⟨w, h4, h5⟩ := Reps.atV (i := i) h3 (by simpa using e)
    exact ⟨w, by simpa using h4, h5⟩
theorem Reps.set {x : D} {y : V} (hx : Rep K φ H x y) : ∀ {ds : List D} {vs : List V} (i : Nat), Reps K φ H ds vs → Reps K φ H (ds.set i x) (vs.set i y)
  | [], vs, i, h => by simp only [Reps] at h; rw [h]; simp only [List.set_nil, Reps]
  | d :: ds, vs, 0, h => by
    simp only [Reps] at h
    obtain ⟨v, r, rfl, _, h3⟩ := h
    simp only [List.set_cons_zero, Reps]
    exact ⟨y, r, rfl, hx, h3⟩
  | d :: ds, vs, i + 1, h => by
    simp only [Reps] at h
    obtain ⟨v, r, rfl, h2, h3⟩ := h
    simp only [List.set_cons_succ, Reps]
    exact ⟨v, r.set i y, rfl, h2, Reps.set hx i h3⟩
theorem Reps.drop : ∀ {ds : List D} {vs : List V} (i : Nat), Reps K φ H ds vs → Reps K φ H (ds.drop i) (vs.drop i)
  | ds, vs, 0, h => by simpa using h
  | [], vs, i + 1, h => by simp only [Reps] at h; rw [h]; simp only [List.drop_nil, Reps]
  | d :: ds, vs, i + 1, h => by
    simp only [Reps] at h
    obtain ⟨v, r, rfl, _, h3⟩ := h
    simpa using Reps.drop i h3
theorem Reps.take : ∀ {ds : List D} {vs : List V} (i : Nat), Reps K φ H ds vs → Reps K φ H (ds.take i) (vs.take i)
  | ds, vs, 0, h => by simp only [List.take_zero, Reps]
  | [], vs, i + 1, h => by simp only [Reps] at h; rw [h]; simp only [List.take_nil, Reps]
  | d :: ds, vs, i + 1, h => by
    simp only [Reps] at h
    obtain ⟨v, r, rfl, h2, h3⟩ := h
    simp only [List.take_succ_cons, Reps]
    exact ⟨v, r.take i, rfl, h2, Reps.take i h3⟩
theorem Reps.ints : ∀ {ds : List D} {vs : List V} {ns : List Int}, Reps K φ H ds vs → asInts ds = some ns → vs = ns.map V.int
  | [], vs, ns, h, e => by simp only [Reps] at h; simp [asInts, mapO] at e; rw [h, e]; rfl
  | d :: ds, vs, ns, h, e => by
    simp only [Reps] at h
    obtain ⟨v, r, rfl, h2, h3⟩ := h
    unfold asInts mapO at e
    cases d <;> simp only [asInt] at e <;> try (cases e; done)
    cases q : mapO asInt ds with
    | none => rw [q] at e; cases e
    | some t =>
      rw [q] at e
      simp at e
      subst e
      simp only [Rep] at h2
      rw [h2, Reps.ints h3 q]; rfl
theorem Reps.bools : ∀ {ds : List D} {vs : List V} {ns : List Bool}, Reps K φ H ds vs → asBools ds = some ns → vs = ns.map V.bl
  | [], vs, ns, h, e => by simp only [Reps] at h; simp [asBools, mapO] at e; rw [h, e]; rfl
  | d :: ds, vs, ns, h, e => by
    simp only [Reps] at h
    obtain ⟨v, r, rfl, h2, h3⟩ := h
    unfold asBools mapO at e
    cases d <;> simp only [asBool] at e <;> try (cases e; done)
    cases q : mapO asBool ds with
    | none => rw [q] at e; cases e
    | some t =>
      rw [q] at e
      simp at e
      subst e
      simp only [Rep] at h2
      rw [h2, Reps.bools h3 q]; rfl
theorem reps_ints : ∀ (ns : List Int), Reps K φ H (ns.map D.int) (ns.map V.int)
  | [] => by simp only [List.map_nil, Reps]
  | n :: r => by simp only [List.map_cons, Reps]; exact ⟨_, _, rfl, by simp only [Rep], reps_ints r⟩
/-! ### names -/
theorem VS.set (h : VS K φ H r σ) (i : Nat) (hd : Rep K φ H d v) : VS K φ H (r.set i (some d)) (σ.set i (some v)) := by
  refine ⟨by simp [h.1], fun j x hj => ?_⟩
  by_cases e : j = i
  · subst e
    have hl : j < r.length := by
      have := (List.getElem?_eq_some_iff.mp hj).1
      simpa using this
    rw [List.getElem?_set_self hl] at hj
    cases hj
    exact ⟨v, by rw [List.getElem?_set_self (by rw [← h.1]; exact hl)], hd⟩
  · rw [List.getElem?_set_ne (Ne.symm e)] at hj ⊢
    exact h.2 j x hj
theorem VS.unset (h : VS K φ H r σ) (i : Nat) : VS K φ H (r.set i none) (σ.set i none) := by
  refine ⟨by simp [h.1], fun j x hj => ?_⟩
  by_cases e : j = i
  · subst e
    have hl : j < r.length := by
      have := (List.getElem?_eq_some_iff.mp hj).1
      simpa using this
    rw [List.getElem?_set_self hl] at hj
    cases hj
  · rw [List.getElem?_set_ne (Ne.symm e)] at hj ⊢
    exact h.2 j x hj
theorem VS.wipe (h : VS K φ H r σ) : ∀ vs : List Nat, VS K φ H (Wb.wipe r vs) (L2.wipe σ vs)
  | [] => h
  | v :: vs => (VS.wipe h vs).unset v
theorem VS.look (h : VS K φ H r σ) {i : Nat} {d : D} (e : Wb.look r i = some d) : ∃ v, σ[i]? = some (some v) ∧ Rep K φ H d v := by
  unfold Wb.look at e
  split at e
  · next x q => cases e; exact h.2 i _ q
  · cases e
end
end Wb

/-! W4: the operations on plain data are the machine's. -/
namespace Wb
open PySem PySem.Spec PyProof.Rows L2

/-- what is to be shown of a value made on the way -/
def Nxt (K : PySem.W.Frag) (φ : List Addr) (H : Hp) (S' : Store) (d : D) (Q : VK) : Prop :=
  ∀ (φ' : List Addr) (v : V) (H' : Hp), Ex φ H φ' H' → HS K φ' H' S' → Rep K φ' H' d v → Q v H'
theorem sz_top {n : Nat} (h : n ≤ 1000001) : n ≤ sizeLine := by rw [sizeLine_eq]; omega
theorem small_le {n : Nat} (h : small n = true) : n ≤ 1000000 := of_decide_eq_true h
section
variable {X : Cx} {φ : List Addr} {H : Hp} {S S' : Store} {d e z : D} {x y : V} {Q : VK} {K : PySem.W.Frag}
theorem Nxt.same (h : Nxt K φ H S d Q) (hs : HS K φ H S) {v : V} (r : Rep K φ H d v) : Q v H := h φ v H Ex.rfl' hs r
/-- a new tuple -/
theorem Nxt.tup {ds : List D} {vs : List V} (h : Nxt K φ H S (.tup ds) Q) (hs : HS K φ H S) (r : Reps K φ H ds vs) {p : Addr} (hp : H p = none) : Q (.ref p) (upd H p (.tup vs)) := by
  have e : Ex φ H φ (upd H p (.tup vs)) := Ex.new hp
  refine h φ _ _ e ⟨hs.len, hs.nd, fun n o a h1 h2 => (hs.ob n o a h1 h2).ext hs e (upd_ne ?_)⟩ ?_
  · rintro rfl
    exact hs.live (List.mem_of_getElem? h2) hp
  · simp only [Rep]
    exact ⟨p, vs, rfl, upd_same, Reps.ext hs e _ _ r⟩
/-- a new object of the heap that the store does not name -/
theorem HS.side (hs : HS K φ H S) {p : Addr} {u : HO} (hp : H p = none) : HS K φ (upd H p u) S :=
  ⟨hs.len, hs.nd, fun n o a h1 h2 => (hs.ob n o a h1 h2).ext hs (Ex.new hp) (upd_ne (by
    rintro rfl
    exact hs.live (List.mem_of_getElem? h2) hp))⟩

def rOp (K : PySem.W.Frag) (o : Op) : R2 := fun x y H Q => ∃ (φ : List Addr) (S : Store) (d e z : D) (S' : Store), HS K φ H S ∧ Rep K φ H d x ∧ Rep K φ H e y ∧ opD S o d e = some (z, S') ∧ Nxt K φ H S' z Q
theorem okMul_c {i j : Int} (h : okMul i j = true) : CMul i j := by
  unfold okMul at h
  simp only [Bool.or_eq_true, Bool.and_eq_true, decide_eq_true_eq] at h
  exact h
theorem op_sim {p : Operator} {o : Op} (hp : opOf p = some o) : OpR X (binaryOp p) (rOp X.K o) := by
  intro pins s σ H x y v u Q I rx ry h
  obtain ⟨φ, S, d, e, z, S', hs, rd, re, ho, q⟩ := h
  have I2 : ∀ {i j : Int}, d = .int i → e = .int j → x = .int i ∧ y = .int j := fun h1 h2 => by
    subst h1; subst h2
    simp only [Rep] at rd re
    exact ⟨rd, re⟩
  cases p <;> simp only [opOf] at hp <;> cases hp
  case Add =>
    cases d <;> cases e <;> simp only [opD] at ho <;> try (cases ho; done)
    case int.int i j =>
      obtain ⟨rfl, rfl⟩ := I2 rfl rfl
      cases ho
      exact op_add pins s σ H _ _ v u Q I rx ry ⟨i, j, rfl, rfl, q.same hs (by simp only [Rep])⟩
    case str.str a b =>
      split at ho
      · next hz =>
        cases ho
        simp only [Rep] at rd re
        subst rd; subst re
        exact op_add_str pins s σ H _ _ v u Q I rx ry ⟨a, b, rfl, rfl, sz_top (Nat.le_succ_of_le (small_le hz)), q.same hs (by simp only [Rep])⟩
      · cases ho
    case tup.tup a b =>
      split at ho
      · next hz =>
        cases ho
        simp only [Rep] at rd re
        obtain ⟨p1, xs, rfl, h1, r1⟩ := rd
        obtain ⟨p2, ys, rfl, h2, r2⟩ := re
        have l1 := r1.len
        have l2 := r2.len
        have rr := Reps.app r1 r2
        refine op_catA pins s σ H _ _ v u Q I rx ry ⟨p1, p2, xs, ys, rfl, rfl, SqT.of h1, SqT.of h2, by rw [l1, l2]; exact sz_top (Nat.le_succ_of_le (small_le hz)), fun e => ?_, fun _ e => ?_, fun _ _ p hp => q.tup hs rr hp⟩
        · subst e
          exact q.same hs (by simp only [Rep]; exact ⟨p2, ys, rfl, h2, by simpa using rr⟩)
        · subst e
          exact q.same hs (by simp only [Rep]; exact ⟨p1, xs, rfl, h1, by simpa using rr⟩)
      · cases ho
  case Sub =>
    cases d <;> cases e <;> simp only [opD] at ho <;> try (cases ho; done)
    obtain ⟨rfl, rfl⟩ := I2 rfl rfl
    cases ho
    exact op_sub pins s σ H _ _ v u Q I rx ry ⟨_, _, rfl, rfl, q.same hs (by simp only [Rep])⟩
  case Mult =>
    cases d <;> cases e <;> simp only [opD] at ho <;> try (cases ho; done)
    case int.int i j =>
      split at ho
      · next hz =>
        obtain ⟨rfl, rfl⟩ := I2 rfl rfl
        cases ho
        exact op_mul pins s σ H _ _ v u Q I rx ry ⟨_, _, rfl, rfl, okMul_c hz, q.same hs (by simp only [Rep])⟩
      · cases ho
  case FloorDiv =>
    cases d <;> cases e <;> simp only [opD] at ho <;> try (cases ho; done)
    split at ho
    · next hz =>
      obtain ⟨rfl, rfl⟩ := I2 rfl rfl
      cases ho
      simp only [Bool.and_eq_true, decide_eq_true_eq] at hz
      exact op_fdiv pins s σ H _ _ v u Q I rx ry ⟨_, _, rfl, rfl, hz, q.same hs (by simp only [Rep])⟩
    · cases ho
  case Mod =>
    cases d <;> cases e <;> simp only [opD] at ho <;> try (cases ho; done)
    split at ho
    · next hz =>
      obtain ⟨rfl, rfl⟩ := I2 rfl rfl
      cases ho
      exact op_mod pins s σ H _ _ v u Q I rx ry ⟨_, _, rfl, rfl, of_decide_eq_true hz, q.same hs (by simp only [Rep])⟩
    · cases ho
  case Pow =>
    cases d <;> cases e <;> simp only [opD] at ho <;> try (cases ho; done)
    split at ho
    · next hz =>
      obtain ⟨rfl, rfl⟩ := I2 rfl rfl
      cases ho
      simp only [Bool.and_eq_true, decide_eq_true_eq] at hz
      exact op_pow pins s σ H _ _ v u Q I rx ry ⟨_, _, rfl, rfl, ⟨hz.1.1, hz.1.2, hz.2⟩, q.same hs (by simp only [Rep])⟩
    · cases ho
  case LShift =>
    cases d <;> cases e <;> simp only [opD] at ho <;> try (cases ho; done)
    split at ho
    · next hz =>
      obtain ⟨rfl, rfl⟩ := I2 rfl rfl
      cases ho
      simp only [Bool.and_eq_true, decide_eq_true_eq] at hz
      exact op_shl pins s σ H _ _ v u Q I rx ry ⟨_, _, rfl, rfl, ⟨hz.1.1, hz.1.2, hz.2⟩, q.same hs (by simp only [Rep])⟩
    · cases ho
  case RShift =>
    cases d <;> cases e <;> simp only [opD] at ho <;> try (cases ho; done)
    split at ho
    · next hz =>
      obtain ⟨rfl, rfl⟩ := I2 rfl rfl
      cases ho
      exact op_shr pins s σ H _ _ v u Q I rx ry ⟨_, _, rfl, rfl, of_decide_eq_true hz, q.same hs (by simp only [Rep])⟩
    · cases ho
  case BitAnd =>
    cases d <;> cases e <;> simp only [opD] at ho <;> try (cases ho; done)
    obtain ⟨rfl, rfl⟩ := I2 rfl rfl
    cases ho
    exact op_and pins s σ H _ _ v u Q I rx ry ⟨_, _, rfl, rfl, q.same hs (by simp only [Rep])⟩
end
end Wb

/-! W5: comparisons, subscripts, slices, stores. -/
namespace Wb
open PySem PySem.Spec PyProof.Rows L2
section
variable {X : Cx} {φ : List Addr} {H : Hp} {S S' : Store} {d e z : D} {x y : V} {Q : VK} {K : PySem.W.Frag}

theorem Reps.dp {n : Nat} (ih : ∀ (d : D) (v : V) (p : PyData), toPy S n d = some p → Rep K φ H d v → Dp K H v p) :
    ∀ {ds : List D} {vs : List V} {ps : List PyData}, mapO (toPy S n) ds = some ps → Reps K φ H ds vs → DpAll K H vs ps
  | [], vs, ps, h, r => by
    simp only [Reps] at r
    simp only [mapO, Option.some.injEq] at h
    subst h; subst r
    exact .nil
  | d :: ds, vs, ps, h, r => by
    simp only [Reps] at r
    obtain ⟨v, t, rfl, r1, r2⟩ := r
    simp only [mapO] at h
    cases h1 : toPy S n d with
    | none => rw [h1] at h; cases h
    | some a =>
      cases h2 : mapO (toPy S n) ds with
      | none => rw [h1, h2] at h; cases h
      | some b =>
        rw [h1, h2] at h
        cases h
        exact .cons (ih d v a h1 r1) (Reps.dp ih h2 r2)
theorem toPy_dp (hs : HS K φ H S) : ∀ (n : Nat) (d : D) (v : V) (p : PyData), toPy S n d = some p → Rep K φ H d v → Dp K H v p
  | 0, d, v, p, h, _ => by simp [toPy] at h
  | n + 1, d, v, p, h, r => by
    have go : ∀ {xs : List D} {vs : List V} {ps : List PyData}, mapO (toPy S n) xs = some ps → Reps K φ H xs vs → DpAll K H vs ps := fun h r => Reps.dp (toPy_dp hs n) h r
    cases d with
    | non => simp only [toPy] at h; cases h; simp only [Rep] at r; rw [r]; exact .non
    | bl b => simp only [toPy] at h; cases h; simp only [Rep] at r; rw [r]; exact .bl b
    | int i => simp only [toPy] at h; cases h; simp only [Rep] at r; rw [r]; exact .int i
    | str s => simp only [toPy] at h; cases h; simp only [Rep] at r; rw [r]; exact .str s
    | tup xs =>
      simp only [toPy] at h
      obtain ⟨ps, h1, rfl⟩ := Option.map_eq_some_iff.mp h
      simp only [Rep] at r
      obtain ⟨a, vs, rfl, ha, hr⟩ := r
      exact .tup (SqT.of ha) (go h1 hr)
    | fix xs =>
      simp only [toPy] at h
      obtain ⟨ps, h1, rfl⟩ := Option.map_eq_some_iff.mp h
      simp only [Rep] at r
      obtain ⟨a, vs, rfl, ha, hr⟩ := r
      exact .lst ha.sq (go h1 hr)
    | ref k =>
      simp only [toPy] at h
      simp only [Rep] at r
      obtain ⟨a, rfl, ha⟩ := r
      obtain ⟨o, ho, ro⟩ := hs.sget ha
      rw [ho] at h
      cases o with
      | lst xs =>
        obtain ⟨ps, h1, rfl⟩ := Option.map_eq_some_iff.mp h
        obtain ⟨vs, hv, hr⟩ := ro
        exact .lst (SqL.of hv) (go h1 hr)
      | dik _ => cases h
      | dit _ => cases h
theorem pyOk_dp (hs : HS K φ H S) {d : D} {v : V} {p : PyData} (h : pyOk S d = some p) (r : Rep K φ H d v) : Dp K H v p ∧ SeqAt.shaped p = true := by
  unfold pyOk at h
  split at h
  · next a q =>
    split at h
    · next hq => cases h; exact ⟨toPy_dp hs _ _ _ _ q r, hq⟩
    · cases h
  · cases h
theorem pyOks_dp (hs : HS K φ H S) {ds : List D} {vs : List V} {ps : List PyData} (h : pyOks S ds = some ps) (r : Reps K φ H ds vs) : DpAll K H vs ps ∧ SeqAt.shaped (.list ps) = true := by
  unfold pyOks at h
  split at h
  · next a q =>
    split at h
    · next hq => cases h; exact ⟨Reps.dp (toPy_dp hs _) q r, hq⟩
    · cases h
  · cases h
theorem eqD_sim (hu : X.A.units + 64 < cLine) {b : Bool} : 
    OpR X (compareOp .Eq) (fun x y H Q => ∃ (φ : List Addr) (S : Store) (d e : D), HS X.K φ H S ∧ Rep X.K φ H d x ∧ Rep X.K φ H e y ∧ eqD S d e = some b ∧ Q (.bl b) H) ∧
    OpR X (compareOp .NotEq) (fun x y H Q => ∃ (φ : List Addr) (S : Store) (d e : D), HS X.K φ H S ∧ Rep X.K φ H d x ∧ Rep X.K φ H e y ∧ eqD S d e = some b ∧ Q (.bl (!b)) H) := by
  have sc : ∀ {i j : V}, i = j → decide (i = j) = true := fun h => decide_eq_true h
  refine ⟨fun pins s σ H x y v u Q I rx ry h => ?_, fun pins s σ H x y v u Q I rx ry h => ?_⟩
  all_goals
    obtain ⟨φ, S, d, e, hs, rd, re, ho, q⟩ := h
    unfold eqD at ho
    split at ho
    · cases ho
      simp only [Rep] at rd re
      subst rd; subst re
      first
        | (refine op_eq pins s σ H _ _ v u Q I rx ry ⟨rfl, ?_⟩; simpa using q)
        | (refine op_ne pins s σ H _ _ v u Q I rx ry ⟨rfl, ?_⟩; simpa using q)
    · cases ho
      simp only [Rep] at rd re
      subst rd; subst re
      first
        | (refine op_eq pins s σ H _ _ v u Q I rx ry ⟨rfl, ?_⟩; simpa using q)
        | (refine op_ne pins s σ H _ _ v u Q I rx ry ⟨rfl, ?_⟩; simpa using q)
    · cases ho
      simp only [Rep] at rd re
      subst rd; subst re
      first
        | (refine op_eq pins s σ H _ _ v u Q I rx ry ⟨rfl, ?_⟩; simpa using q)
        | (refine op_ne pins s σ H _ _ v u Q I rx ry ⟨rfl, ?_⟩; simpa using q)
    · split at ho
      · next a b' h1 h2 =>
        cases ho
        obtain ⟨p1, s1⟩ := pyOk_dp hs h1 rd
        obtain ⟨p2, s2⟩ := pyOk_dp hs h2 re
        first
          | exact op_eqD hu pins s σ H _ _ v u Q I rx ry ⟨a, b', p1, p2, s1, s2, q⟩
          | exact op_neD hu pins s σ H _ _ v u Q I rx ry ⟨a, b', p1, p2, s1, s2, q⟩
      · cases ho
theorem inT_sim (hu : X.A.units + 65 < cLine) : 
    OpR X (compareOp .In) (fun x y H Q => ∃ d ds, Dp X.K H x d ∧ Dp X.K H y (.tuple ds) ∧ SeqAt.shaped d = true ∧ SeqAt.shaped (.list ds) = true ∧ Q (.bl (ds.any fun z => PyData.eqv z d)) H) ∧
    OpR X (compareOp .NotIn) (fun x y H Q => ∃ d ds, Dp X.K H x d ∧ Dp X.K H y (.tuple ds) ∧ SeqAt.shaped d = true ∧ SeqAt.shaped (.list ds) = true ∧ Q (.bl (!ds.any fun z => PyData.eqv z d)) H) := by
  refine ⟨fun pins s σ H x y v u Q I rx ry h => ?_, fun pins s σ H x y v u Q I rx ry h => ?_⟩
  · obtain ⟨d, ds, hd, he, sd, se, q⟩ := h
    obtain ⟨as, r1⟩ := Dp.reads I d x v hd rx
    obtain ⟨bs, r2⟩ := Dp.reads I (.tuple ds) y u he ry
    exact SeqAt.in_tuple_reads r2 r1 (SeqAt.canLay_of_shaped se) (SeqAt.canLay_of_shaped sd) (room_in_shaped sd hu) ⟨.bl _, H, I, rfl, q⟩
  · obtain ⟨d, ds, hd, he, sd, se, q⟩ := h
    obtain ⟨as, r1⟩ := Dp.reads I d x v hd rx
    obtain ⟨bs, r2⟩ := Dp.reads I (.tuple ds) y u he ry
    exact SeqAt.notIn_tuple_reads r2 r1 (SeqAt.canLay_of_shaped se) (SeqAt.canLay_of_shaped sd) (room_in_shaped sd hu) ⟨.bl _, H, I, rfl, q⟩
theorem keys_v : ∀ {ds : List D} {ks : List Key} {vs : List V}, D.keys ds = some ks → Reps K φ H ds vs → vs = ks.map kV
  | [], ks, vs, h, r => by
    simp only [Reps] at r
    simp only [D.keys, Option.some.injEq] at h
    rw [r, ← h]; rfl
  | d :: ds, ks, vs, h, r => by
    simp only [Reps] at r
    obtain ⟨v, t, rfl, r1, r2⟩ := r
    simp only [D.keys] at h
    cases h1 : d.key with
    | none => rw [h1] at h; cases h
    | some a =>
      cases h2 : D.keys ds with
      | none => rw [h1, h2] at h; cases h
      | some b =>
        rw [h1, h2] at h
        cases h
        rw [keys_v h2 r2]
        cases d <;> simp only [D.key] at h1 <;> cases h1 <;> (simp only [Rep] at r1; rw [r1]; rfl)
theorem key_v {k : Key} {v : V} (h : d.key = some k) (r : Rep K φ H d v) : v = kV k := by
  cases d <;> simp only [D.key] at h <;> cases h <;> (simp only [Rep] at r; rw [r]; rfl)
theorem KRep.get {κ : Type} [DecidableEq κ] {kvs : List (κ × D)} {ws : List (κ × V)} (h : KRep K φ H kvs ws) (k : κ) :
    match getK kvs k, valV ws k with
    | some d, some v => Rep K φ H d v
    | none, none => True
    | _, _ => False := by
  unfold KRep at h
  induction h with
  | nil => trivial
  | @cons p q r t hpq _ ih =>
    obtain ⟨k1, d⟩ := p
    obtain ⟨k2, v⟩ := q
    obtain ⟨e, hr⟩ := hpq
    simp only at e hr
    subst e
    by_cases hk : k1 = k
    · have e1 : getK ((k1, d) :: r) k = some d := by simp [getK, List.find?_cons, hk]
      have e2 : valV ((k1, v) :: t) k = some v := by simp [valV, List.find?_cons, hk]
      rw [e1, e2]; exact hr
    · have e1 : getK ((k1, d) :: r) k = getK r k := by simp [getK, List.find?_cons, hk]
      have e2 : valV ((k1, v) :: t) k = valV t k := by simp [valV, List.find?_cons, hk]
      rw [e1, e2]; exact ih
theorem KRep.some_ {κ : Type} [DecidableEq κ] {kvs : List (κ × D)} {ws : List (κ × V)} (h : KRep K φ H kvs ws) (k : κ) : (getK kvs k).isSome = (valV ws k).isSome := by
  have g := h.get k
  cases h1 : getK kvs k <;> cases h2 : valV ws k <;> rw [h1, h2] at g <;> first | rfl | exact g.elim
theorem KRep.val {κ : Type} [DecidableEq κ] {kvs : List (κ × D)} {ws : List (κ × V)} (h : KRep K φ H kvs ws) {k : κ} {d : D} (e : getK kvs k = some d) : ∃ v, valV ws k = some v ∧ Rep K φ H d v := by
  have g := h.get k
  rw [e] at g
  cases h2 : valV ws k with
  | none => rw [h2] at g; exact g.elim
  | some v => rw [h2] at g; exact ⟨v, rfl, g⟩
theorem KRep.len {κ : Type} {kvs : List (κ × D)} {ws : List (κ × V)} (h : KRep K φ H kvs ws) : ws.length = kvs.length := (Paired.length h).symm
theorem KRep.set {κ : Type} [DecidableEq κ] {kvs : List (κ × D)} {ws : List (κ × V)} (h : KRep K φ H kvs ws) (k : κ) {d : D} {v : V} (r : Rep K φ H d v) : KRep K φ H (setK kvs k d) (putK ws k v) := by
  have ha : ∀ {kvs : List (κ × D)} {ws : List (κ × V)}, KRep K φ H kvs ws → (kvs.any fun kv => decide (kv.1 = k)) = (ws.any fun kv => decide (kv.1 = k)) := fun h => by
    unfold KRep at h
    induction h with
    | nil => rfl
    | cons hpq _ ih => simp only [List.any_cons, hpq.1, ih]
  have hm : ∀ {kvs : List (κ × D)} {ws : List (κ × V)}, KRep K φ H kvs ws → KRep K φ H (kvs.map fun kv => if kv.1 = k then (kv.1, d) else kv) (ws.map fun kv => if kv.1 = k then (kv.1, v) else kv) := fun h => by
    unfold KRep at h ⊢
    induction h with
    | nil => exact .nil
    | @cons p q _ _ hpq _ ih =>
      refine .cons ?_ ih
      by_cases e : p.1 = k
      · have e' : q.1 = k := hpq.1 ▸ e
        simp only [e, e', if_true]
        exact ⟨trivial, r⟩
      · have e' : ¬ q.1 = k := fun z => e (hpq.1.trans z)
        simp only [e, e', if_false]
        exact hpq
  have hp : ∀ {kvs : List (κ × D)} {ws : List (κ × V)}, KRep K φ H kvs ws → KRep K φ H (kvs ++ [(k, d)]) (ws ++ [(k, v)]) := fun h => by
    unfold KRep at h ⊢
    induction h with
    | nil => exact .cons ⟨rfl, r⟩ .nil
    | cons hpq _ ih => exact .cons hpq ih
  unfold setK putK
  rw [ha h]
  split
  · exact hm h
  · exact hp h
end
end Wb

/-! W6: each operation's rule, by plain data. -/
namespace Wb
open PySem PySem.Spec PyProof.Rows L2
/-- room for what the operations ask -/
structure Rm (X : Cx) : Prop where
  calm : X.calm = true
  un : X.A.units + 150 < cLine
  gd : X.A.guards = some []
section
variable {X : Cx} {φ : List Addr} {H : Hp} {S S' : Store} {d e z : D} {x y : V} {Q : VK} {K : PySem.W.Frag}
def rCp (K : PySem.W.Frag) (c : Cp) : R2 := fun x y H Q => ∃ (φ : List Addr) (S : Store) (d e z : D), HS K φ H S ∧ Rep K φ H d x ∧ Rep K φ H e y ∧ cpD S c d e = some z ∧ ∀ v, Rep K φ H z v → Q v H
theorem Rep.blv {b : Bool} : Rep K φ H (.bl b) (.bl b) := by simp only [Rep]
theorem map_some {α β : Type} {o : Option α} {f : α → β} {b : β} (h : o.map f = some b) : ∃ a, o = some a ∧ b = f a := by
  obtain ⟨a, h1, h2⟩ := Option.map_eq_some_iff.mp h
  exact ⟨a, h1, h2.symm⟩
theorem cp_sim (R : Rm X) (c : CmpOp) : OpR X (compareOp c) (rCp X.K (cpOf c)) := by
  intro pins s σ H x y v u Q I rx ry h
  obtain ⟨φ, S, d, e, z, hs, rd, re, ho, q⟩ := h
  have hu := R.un
  have fin : ∀ {b : Bool}, z = .bl b → Q (.bl b) H := fun h => by subst h; exact q _ Rep.blv
  -- membership
  have mem : ∀ {c : CmpOp} {neg : Bool}, (c = .In ∧ neg = false) ∨ (c = .NotIn ∧ neg = true) → (∀ {b : Bool}, (if neg then noB b else .bl b) = z → Q (if neg then .bl (!b) else .bl b) H) →
      (∃ xs vs ps qs a, e = .tup xs ∧ y = .ref a ∧ H a = some (.tup vs) ∧ Reps X.K φ H xs vs ∧ pyOk S d = some ps ∧ pyOks S xs = some qs ∧ (if neg then noB (qs.any fun w => PyData.eqv w ps) else .bl (qs.any fun w => PyData.eqv w ps)) = z) ∨
      (∃ xs vs ps qs a, y = .ref a ∧ H a = some (.lst vs) ∧ Reps X.K φ H xs vs ∧ pyOk S d = some ps ∧ pyOks S xs = some qs ∧ (if neg then noB (qs.any fun w => PyData.eqv w ps) else .bl (qs.any fun w => PyData.eqv w ps)) = z) ∨
      (∃ a o, y = .ref a ∧ DGet H a x o ∧ (if neg then noB o.isSome else .bl o.isSome) = z) →
      wpAny (model X.prog X.w) X.A (compareOp c v u) (EP X pins σ Q) X.xe s := by
    intro c neg hc hq hh
    rcases hh with ⟨xs, vs, ps, qs, a, rfl, rfl, ha, hr, h1, h2, h3⟩ | ⟨xs, vs, ps, qs, a, rfl, ha, hr, h1, h2, h3⟩ | ⟨a, o, rfl, g, h3⟩
    · obtain ⟨p1, s1⟩ := pyOk_dp hs h1 rd
      obtain ⟨p2, s2⟩ := pyOks_dp hs h2 hr
      have q' := hq h3
      rcases hc with ⟨rfl, rfl⟩ | ⟨rfl, rfl⟩
      · exact (inT_sim (by omega)).1 pins s σ H _ _ v u Q I rx ry ⟨ps, qs, p1, .tup (SqT.of ha) p2, s1, s2, by simpa using q'⟩
      · exact (inT_sim (by omega)).2 pins s σ H _ _ v u Q I rx ry ⟨ps, qs, p1, .tup (SqT.of ha) p2, s1, s2, by simpa using q'⟩
    · obtain ⟨p1, s1⟩ := pyOk_dp hs h1 rd
      obtain ⟨p2, s2⟩ := pyOks_dp hs h2 hr
      have q' := hq h3
      rcases hc with ⟨rfl, rfl⟩ | ⟨rfl, rfl⟩
      · exact op_inD (by omega) pins s σ H _ _ v u Q I rx ry ⟨ps, qs, p1, .lst (SqL.of ha) p2, s1, s2, by simpa using q'⟩
      · exact op_notInD (by omega) pins s σ H _ _ v u Q I rx ry ⟨ps, qs, p1, .lst (SqL.of ha) p2, s1, s2, by simpa using q'⟩
    · have q' := hq h3
      cases (show u = Value.ref a from ry)
      rcases hc with ⟨rfl, rfl⟩ | ⟨rfl, rfl⟩
      · exact d_in (by omega) I g rx fun s' I' => ⟨.bl _, H, I', rfl, by simpa using q'⟩
      · exact d_notIn (by omega) I g rx fun s' I' => ⟨.bl _, H, I', rfl, by simpa using q'⟩
  cases c
  case Eq =>
    simp only [cpOf, cpD] at ho
    obtain ⟨b, h1, h2⟩ := map_some ho
    exact (eqD_sim (b := b) (by omega)).1 pins s σ H _ _ v u Q I rx ry ⟨φ, S, d, e, hs, rd, re, h1, fin h2⟩
  case NotEq =>
    simp only [cpOf, cpD] at ho
    obtain ⟨b, h1, h2⟩ := map_some ho
    exact (eqD_sim (b := b) (by omega)).2 pins s σ H _ _ v u Q I rx ry ⟨φ, S, d, e, hs, rd, re, h1, fin h2⟩
  case Lt =>
    simp only [cpOf, cpD] at ho
    obtain ⟨b, h1, h2⟩ := map_some ho
    cases d <;> cases e <;> simp only [ltD] at h1 <;> try (cases h1; done)
    case int.int i j =>
      cases h1
      simp only [Rep] at rd re
      exact op_lt pins s σ H _ _ v u Q I rx ry ⟨i, j, rd, re, fin h2⟩
    case tup.tup xs ys =>
      split at h1
      · next a b' e1 e2 =>
        cases h1
        simp only [Rep] at rd re
        obtain ⟨p1, vs, rfl, h3, r1⟩ := rd
        obtain ⟨p2, ws, rfl, h4, r2⟩ := re
        rw [r1.ints e1] at h3
        rw [r2.ints e2] at h4
        exact op_ltT (by omega) pins s σ H _ _ v u Q I rx ry ⟨p1, p2, a, b', rfl, rfl, SqT.of h3, SqT.of h4, fin h2⟩
      · cases h1
  case LtE =>
    cases d <;> cases e <;> simp only [cpOf, cpD] at ho <;> try (cases ho; done)
    simp only [Rep] at rd re
    cases ho
    exact op_le pins s σ H _ _ v u Q I rx ry ⟨_, _, rd, re, fin rfl⟩
  case Gt =>
    cases d <;> cases e <;> simp only [cpOf, cpD] at ho <;> try (cases ho; done)
    simp only [Rep] at rd re
    cases ho
    exact op_gt pins s σ H _ _ v u Q I rx ry ⟨_, _, rd, re, fin rfl⟩
  case GtE =>
    cases d <;> cases e <;> simp only [cpOf, cpD] at ho <;> try (cases ho; done)
    simp only [Rep] at rd re
    cases ho
    exact op_ge pins s σ H _ _ v u Q I rx ry ⟨_, _, rd, re, fin rfl⟩
  case Is =>
    have key : e = .non ∧ z = .bl (decide (d = .non)) := by
      cases e <;> cases d <;> simp only [cpOf, cpD] at ho <;> first | (cases ho; done) | (cases ho; exact ⟨rfl, rfl⟩)
    obtain ⟨rfl, h2⟩ := key
    simp only [Rep] at re
    refine op_isN pins s σ H _ _ v u Q I rx ry ⟨re, ?_⟩
    have : decide (x = V.non) = decide (d = D.non) := by
      cases d <;> simp only [Rep] at rd
      all_goals first | (subst rd; simp; done) | (obtain ⟨_, rfl, _⟩ := rd; simp; done) | (obtain ⟨_, _, rfl, _⟩ := rd; simp)
    rw [this]; exact fin h2
  case IsNot =>
    have key : e = .non ∧ z = .bl (!decide (d = .non)) := by
      cases e <;> cases d <;> simp only [cpOf, cpD] at ho <;> first | (cases ho; done) | (cases ho; exact ⟨rfl, rfl⟩)
    obtain ⟨rfl, h2⟩ := key
    simp only [Rep] at re
    refine op_notN pins s σ H _ _ v u Q I rx ry ⟨re, ?_⟩
    have : decide (x = V.non) = decide (d = D.non) := by
      cases d <;> simp only [Rep] at rd
      all_goals first | (subst rd; simp; done) | (obtain ⟨_, rfl, _⟩ := rd; simp; done) | (obtain ⟨_, _, rfl, _⟩ := rd; simp)
    rw [this]; exact fin h2
  case In =>
    have hq : ∀ {b : Bool}, (if false = true then noB b else .bl b) = z → Q (if false = true then .bl (!b) else .bl b) H := fun {b} h => by
      have h' : z = .bl b := by simpa using h.symm
      simpa using fin h'
    refine (?_ : _ ∨ _).elim (fun hh => mem (neg := false) (.inl ⟨rfl, rfl⟩) hq hh) id
    cases e with
    | tup xs =>
      left; left
      have ho' : (inD S d xs).map D.bl = some z := by cases d <;> simpa only [cpOf, cpD] using ho
      obtain ⟨b, h1, h2⟩ := map_some ho'
      unfold inD at h1
      split at h1
      · next p q h3 h4 =>
        cases h1
        simp only [Rep] at re
        obtain ⟨a, vs, rfl, ha, hr⟩ := re
        exact ⟨xs, vs, p, q, a, rfl, rfl, ha, hr, h3, h4, by simpa using h2.symm⟩
      · cases h1
    | ref n =>
      left; right
      simp only [Rep] at re
      obtain ⟨a, rfl, ha⟩ := re
      obtain ⟨o, ho1, ro⟩ := hs.sget ha
      simp only [cpOf, cpD, ho1] at ho
      cases o with
      | lst xs =>
        left
        obtain ⟨b, h1, h2⟩ := map_some ho
        unfold inD at h1
        split at h1
        · next p q h3 h4 =>
          cases h1
          obtain ⟨vs, hv, hr⟩ := ro
          exact ⟨xs, vs, p, q, a, rfl, hv, hr, h3, h4, by simpa using h2.symm⟩
        · cases h1
      | dik kvs =>
        right
        obtain ⟨k, h1, h2⟩ := map_some ho
        obtain ⟨ws, hv, hr⟩ := ro
        refine ⟨a, valV ws k, rfl, ?_, ?_⟩
        · rw [key_v h1 rd]; exact DGet.k hv
        · rw [← hr.some_ k]; simpa using h2.symm
      | dit kvs =>
        right
        cases d <;> simp only at ho <;> try (cases ho; done)
        next ds =>
        obtain ⟨k, h1, h2⟩ := map_some ho
        obtain ⟨ws, hv, hr⟩ := ro
        simp only [Rep] at rd
        obtain ⟨b, vs, rfl, hb, rb⟩ := rd
        rw [keys_v h1 rb] at hb
        exact ⟨a, valV ws k, rfl, DGet.t hv hb, by rw [← hr.some_ k]; simpa using h2.symm⟩
    | str t =>
      right
      cases d <;> simp only [cpOf, cpD] at ho <;> try (cases ho; done)
      cases ho
      simp only [Rep] at rd re
      exact op_in_str pins s σ H _ _ v u Q I rx ry ⟨_, _, rd, re, fin rfl⟩
    | _ => exfalso; cases d <;> simp only [cpOf, cpD] at ho <;> cases ho
  case NotIn =>
    have hq : ∀ {b : Bool}, (if true = true then noB b else .bl b) = z → Q (if true = true then .bl (!b) else .bl b) H := fun {b} h => by
      have h' : z = .bl (!b) := by simpa [noB] using h.symm
      simpa using fin h'
    refine (?_ : _ ∨ _).elim (fun hh => mem (neg := true) (.inr ⟨rfl, rfl⟩) hq hh) id
    cases e with
    | tup xs =>
      left; left
      have ho' : (inD S d xs).map noB = some z := by cases d <;> simpa only [cpOf, cpD] using ho
      obtain ⟨b, h1, h2⟩ := map_some ho'
      unfold inD at h1
      split at h1
      · next p q h3 h4 =>
        cases h1
        simp only [Rep] at re
        obtain ⟨a, vs, rfl, ha, hr⟩ := re
        exact ⟨xs, vs, p, q, a, rfl, rfl, ha, hr, h3, h4, by simpa using h2.symm⟩
      · cases h1
    | ref n =>
      left; right
      simp only [Rep] at re
      obtain ⟨a, rfl, ha⟩ := re
      obtain ⟨o, ho1, ro⟩ := hs.sget ha
      simp only [cpOf, cpD, ho1] at ho
      cases o with
      | lst xs =>
        left
        obtain ⟨b, h1, h2⟩ := map_some ho
        unfold inD at h1
        split at h1
        · next p q h3 h4 =>
          cases h1
          obtain ⟨vs, hv, hr⟩ := ro
          exact ⟨xs, vs, p, q, a, rfl, hv, hr, h3, h4, by simpa using h2.symm⟩
        · cases h1
      | dik kvs =>
        right
        obtain ⟨k, h1, h2⟩ := map_some ho
        obtain ⟨ws, hv, hr⟩ := ro
        refine ⟨a, valV ws k, rfl, ?_, ?_⟩
        · rw [key_v h1 rd]; exact DGet.k hv
        · rw [← hr.some_ k]; simpa using h2.symm
      | dit kvs =>
        right
        cases d <;> simp only at ho <;> try (cases ho; done)
        next ds =>
        obtain ⟨k, h1, h2⟩ := map_some ho
        obtain ⟨ws, hv, hr⟩ := ro
        simp only [Rep] at rd
        obtain ⟨b, vs, rfl, hb, rb⟩ := rd
        rw [keys_v h1 rb] at hb
        exact ⟨a, valV ws k, rfl, DGet.t hv hb, by rw [← hr.some_ k]; simpa using h2.symm⟩
    | str t =>
      right
      cases d <;> simp only [cpOf, cpD] at ho <;> try (cases ho; done)
      cases ho
      simp only [Rep] at rd re
      exact op_notin_str pins s σ H _ _ v u Q I rx ry ⟨_, _, rd, re, fin rfl⟩
    | _ => exfalso; cases d <;> simp only [cpOf, cpD] at ho <;> cases ho

/-- a[i] -/
def rIxD (K : PySem.W.Frag) : R2 := fun x y H Q => ∃ (φ : List Addr) (S : Store) (d e z : D), HS K φ H S ∧ Rep K φ H d x ∧ Rep K φ H e y ∧ ixD S d e = some z ∧ ∀ v, Rep K φ H z v → Q v H
theorem Reps.atI_ {ds : List D} {vs : List V} {i : Int} {d : D} (r : Reps K φ H ds vs) (e : atI ds i = some d) : ∃ v, atI vs i = some v ∧ Rep K φ H d v := by
  unfold atI at e ⊢
  obtain ⟨j, h1, h2⟩ := Option.bind_eq_some_iff.mp e
  obtain ⟨v, h3, h4⟩ := r.at_ h2
  exact ⟨v, by rw [r.len, h1]; exact h3, h4⟩
theorem ix_dict (hu : X.A.units + 1 < cLine) : IxR X (fun x y H Q => ∃ a v, x = .ref a ∧ DGet H a y (some v) ∧ Q v H) := by
  intro value slice pins s σ H x y v u Q I rx ry h hs
  obtain ⟨a, w, rfl, g, q⟩ := h
  cases (show v = Value.ref a from rx)
  exact tail_any (dict_typeIs I g) PySem.F.slot_dict_getitem.lookup (d_getItem hu I g ry fun w' s' I' rw' => ⟨w, H, I', rw', q⟩) hs
theorem ix_sim (R : Rm X) : IxR X (rIxD X.K) := by
  intro value slice pins s σ H x y v u Q I rx ry h hsl
  obtain ⟨φ, S, d, e, z, hs, rd, re, ho, q⟩ := h
  have hu := R.un
  cases d <;> simp only [ixD] at ho <;> try (cases ho; done)
  case tup xs =>
    cases e <;> simp only at ho <;> try (cases ho; done)
    simp only [Rep] at rd re
    obtain ⟨a, vs, rfl, ha, hr⟩ := rd
    obtain ⟨w, h1, h2⟩ := hr.atI_ ho
    exact ix_tup value slice pins s σ H _ _ v u Q I rx ry ⟨a, vs, _, w, rfl, re, SqT.of ha, h1, q w h2⟩ hsl
  case fix xs =>
    cases e <;> simp only at ho <;> try (cases ho; done)
    simp only [Rep] at rd re
    obtain ⟨a, vs, rfl, ha, hr⟩ := rd
    obtain ⟨w, h1, h2⟩ := hr.atI_ ho
    exact ix_list value slice pins s σ H _ _ v u Q I rx ry ⟨a, vs, _, w, rfl, re, ha.sq, h1, q w h2⟩ hsl
  case str t =>
    cases e <;> simp only at ho <;> try (cases ho; done)
    split at ho
    · next hz =>
      obtain ⟨c, h1, h2⟩ := map_some ho
      simp only [Rep] at rd re
      exact ix_str value slice pins s σ H _ _ v u Q I rx ry ⟨t, _, c, rd, re, sz_top (Nat.le_succ_of_le (small_le hz)), h1, q _ (by rw [h2]; simp only [Rep])⟩ hsl
    · cases ho
  case ref n =>
    simp only [Rep] at rd
    obtain ⟨a, rfl, ha⟩ := rd
    obtain ⟨o, ho1, ro⟩ := hs.sget ha
    rw [ho1] at ho
    cases o with
    | lst xs =>
      cases e <;> simp only at ho <;> try (cases ho; done)
      simp only [Rep] at re
      obtain ⟨vs, hv, hr⟩ := ro
      obtain ⟨w, h1, h2⟩ := hr.atI_ ho
      exact ix_list value slice pins s σ H _ _ v u Q I rx ry ⟨a, vs, _, w, rfl, re, SqL.of hv, h1, q w h2⟩ hsl
    | dik kvs =>
      simp only at ho
      split at ho
      · next k h1 =>
        obtain ⟨ws, hv, hr⟩ := ro
        obtain ⟨w, h2, h3⟩ := hr.val ho
        refine ix_dict (by omega) value slice pins s σ H _ _ v u Q I rx ry ⟨a, w, rfl, ?_, q w h3⟩ hsl
        rw [key_v h1 re, ← h2]; exact DGet.k hv
      · cases ho
    | dit kvs =>
      cases e <;> simp only at ho <;> try (cases ho; done)
      split at ho
      · next k h1 =>
        obtain ⟨ws, hv, hr⟩ := ro
        obtain ⟨w, h2, h3⟩ := hr.val ho
        simp only [Rep] at re
        obtain ⟨b, vs, rfl, hb, rb⟩ := re
        rw [keys_v h1 rb] at hb
        refine ix_dict (by omega) value slice pins s σ H _ _ v u Q I rx ry ⟨a, w, rfl, ?_, q w h3⟩ hsl
        rw [← h2]; exact DGet.t hv hb
      · cases ho
/-- o[i] = v -/
def rSetD (K : PySem.W.Frag) : V → V → V → Hp → (Hp → Prop) → Prop := fun o i v H Q => ∃ (φ : List Addr) (S : Store) (d e f : D) (S' : Store), HS K φ H S ∧ Rep K φ H d o ∧ Rep K φ H e i ∧ Rep K φ H f v ∧ setD S d e f = some S' ∧
  ∀ H', Ex φ H φ H' → HS K φ H' S' → Q H'
theorem set_sim (R : Rm X) : PSet X (rSetD X.K) := by
  intro pins s σ H o i w ov iv u Q I ro ri rw h
  obtain ⟨φ, S, d, e, f, S', hs, rd, re, rf, ho, q⟩ := h
  have hu := R.un
  cases d <;> simp only [setD] at ho <;> try (cases ho; done)
  next n =>
  simp only [Rep] at rd
  obtain ⟨a, rfl, ha⟩ := rd
  obtain ⟨ob, ho1, rob⟩ := hs.sget ha
  rw [ho1] at ho
  cases ob with
  | lst xs =>
    cases e <;> simp only at ho <;> try (cases ho; done)
    next k =>
    split at ho
    · next hk =>
      cases ho
      simp only [Rep] at re
      obtain ⟨vs, hv, hr⟩ := rob
      have hm := hs.mutEx (u := HO.lst (vs.set k.toNat w)) ha
      refine set_list pins s σ H _ _ _ ov iv u Q I ro ri rw ⟨a, vs, k, k.toNat, rfl, re, hv, ?_, q _ hm ?_⟩
      · unfold ixN
        rw [if_pos hk.1, if_pos (by rw [hr.len]; exact hk.2)]
      · exact hs.set ho1 ha ⟨_, upd_same, Reps.set (Rep.ext hs hm _ _ rf) _ (Reps.ext hs hm _ _ hr)⟩
    · cases ho
  | dik kvs =>
    simp only at ho
    split at ho
    · next k h1 =>
      split at ho
      · next hz =>
        cases ho
        obtain ⟨ws, hv, hr⟩ := rob
        have hm := hs.mutEx (u := HO.dK (putK ws k w)) ha
        cases (show ov = Value.ref a from ro)
        have hl : ws.length < sizeLine := by
          rw [hr.len]
          have := small_le hz
          have h2 := sz_top (n := kvs.length + 1) (by omega)
          omega
        refine d_setItem (by omega) I (y := i) (v := w) ?_ ri rw fun s' I' => ⟨upd H a (.dK (putK ws k w)), I', q _ hm ?_⟩
        · rw [key_v h1 re]; exact DPut.k hv hl
        · exact hs.set ho1 ha ⟨_, upd_same, KRep.set (KRep.ext hs hm hr) k (Rep.ext hs hm _ _ rf)⟩
      · cases ho
    · cases ho
  | dit kvs =>
    cases e <;> simp only at ho <;> try (cases ho; done)
    split at ho
    · next k h1 =>
      split at ho
      · next hz =>
        cases ho
        obtain ⟨ws, hv, hr⟩ := rob
        have hm := hs.mutEx (u := HO.dT (putK ws k w)) ha
        cases (show ov = Value.ref a from ro)
        have hl : ws.length < sizeLine := by
          rw [hr.len]
          have := small_le hz
          have h2 := sz_top (n := kvs.length + 1) (by omega)
          omega
        simp only [Rep] at re
        obtain ⟨b, vs, rfl, hb, rb⟩ := re
        rw [keys_v h1 rb] at hb
        refine d_setItem (by omega) I (y := .ref b) (v := w) (DPut.t hv hb hl) ri rw fun s' I' => ⟨upd H a (.dT (putK ws k w)), I', q _ hm ?_⟩
        exact hs.set ho1 ha ⟨_, upd_same, KRep.set (KRep.ext hs hm hr) k (Rep.ext hs hm _ _ rf)⟩
      · cases ho
    · cases ho
theorem Reps.nil_iff {ds : List D} {vs : List V} (r : Reps K φ H ds vs) : vs.isEmpty = ds.isEmpty := by
  have := r.len
  cases vs <;> cases ds <;> simp_all
theorem truth_v {b : Bool} {v : V} (hs : HS K φ H S) (r : Rep K φ H d v) (h : truthD S d = some b) : TruV K v H b := by
  cases d <;> simp only [truthD] at h
  case non => simp only [Rep] at r; subst r; cases h; rfl
  case bl => simp only [Rep] at r; subst r; cases h; rfl
  case int => simp only [Rep] at r; subst r; cases h; rfl
  case str x =>
    simp only [Rep] at r
    subst r
    split at h
    · next hz =>
      cases h
      refine ⟨sz_top (Nat.le_succ_of_le (small_le hz)), ?_⟩
      rcases Nat.eq_zero_or_pos x.length with h0 | h0
      · simp [h0]
      · have h1 : x.length ≠ 0 := by omega
        have h2 : (x.length : Int) ≠ 0 := by omega
        rw [bne_iff_ne.mpr h1, bne_iff_ne.mpr h2]
    · cases h
  case tup xs =>
    simp only [Rep] at r
    obtain ⟨a, vs, rfl, ha, hr⟩ := r
    cases h
    exact .inr (.inl ⟨vs, SqT.of ha, by rw [hr.nil_iff]⟩)
  case fix xs =>
    simp only [Rep] at r
    obtain ⟨a, vs, rfl, ha, hr⟩ := r
    cases h
    exact .inl ⟨vs, ha.sq, by rw [hr.nil_iff]⟩
  case ref n =>
    simp only [Rep] at r
    obtain ⟨a, rfl, ha⟩ := r
    obtain ⟨o, ho1, ro⟩ := hs.sget ha
    rw [ho1] at h
    cases o with
    | lst xs =>
      cases h
      obtain ⟨vs, hv, hr⟩ := ro
      exact .inl ⟨vs, SqL.of hv, by rw [hr.nil_iff]⟩
    | dik _ => cases h
    | dit _ => cases h
end
end Wb

/-! W7: orders, and calls of built-ins. -/
namespace Wb
open PySem PySem.Spec PyProof.Rows L2
/-! ### sorted lists are one -/
section
variable {α : Type} {le : α → α → Bool}
theorem ins_perm (x : α) : ∀ l : List α, (ins le x l).Perm (x :: l)
  | [] => List.Perm.refl _
  | y :: r => by
    unfold ins
    split
    · exact List.Perm.refl _
    · exact ((ins_perm x r).cons y).trans (List.Perm.swap x y r)
theorem srt_perm : ∀ l : List α, (srt le l).Perm l
  | [] => List.Perm.refl _
  | x :: r => (ins_perm x (srt le r)).trans ((srt_perm r).cons x)
theorem ins_srt (tot : ∀ a b, le a b = true ∨ le b a = true) (tr : ∀ a b c, le a b = true → le b c = true → le a c = true) (x : α) :
    ∀ l : List α, l.Pairwise (fun a b => le a b = true) → (ins le x l).Pairwise (fun a b => le a b = true)
  | [], _ => by simp [ins]
  | y :: r, h => by
    unfold ins
    split
    · next hxy =>
      refine List.pairwise_cons.mpr ⟨fun z hz => ?_, h⟩
      rcases List.mem_cons.mp hz with rfl | hz
      · exact hxy
      · exact tr _ _ _ hxy ((List.pairwise_cons.mp h).1 z hz)
    · next hxy =>
      obtain ⟨h1, h2⟩ := List.pairwise_cons.mp h
      refine List.pairwise_cons.mpr ⟨fun z hz => ?_, ins_srt tot tr x r h2⟩
      rcases List.mem_cons.mp ((ins_perm x r).mem_iff.mp hz) with rfl | hz
      · exact (tot z y).resolve_left hxy
      · exact h1 z hz
theorem srt_srt (tot : ∀ a b, le a b = true ∨ le b a = true) (tr : ∀ a b c, le a b = true → le b c = true → le a c = true) : ∀ l : List α, (srt le l).Pairwise (fun a b => le a b = true)
  | [] => List.Pairwise.nil
  | x :: r => ins_srt tot tr x _ (srt_srt tot tr r)
theorem srt_one (anti : ∀ a b, le a b = true → le b a = true → a = b) : ∀ {l m : List α}, l.Perm m → l.Pairwise (fun a b => le a b = true) → m.Pairwise (fun a b => le a b = true) → l = m
  | [], m, h, _, _ => (List.nil_perm.mp h).symm ▸ rfl
  | x :: l, [], h, _, _ => absurd (List.perm_nil.mp h) (by simp)
  | x :: l, y :: m, h, h1, h2 => by
    obtain ⟨a1, a2⟩ := List.pairwise_cons.mp h1
    obtain ⟨b1, b2⟩ := List.pairwise_cons.mp h2
    have e : x = y := by
      have hx : x ∈ y :: m := h.mem_iff.mp (List.mem_cons_self ..)
      have hy : y ∈ x :: l := h.mem_iff.mpr (List.mem_cons_self ..)
      rcases List.mem_cons.mp hx with e | hx
      · exact e
      · rcases List.mem_cons.mp hy with e | hy
        · exact e.symm
        · exact anti _ _ (a1 y hy) (b1 x hx)
    subst e
    rw [srt_one anti ((List.perm_cons x).mp h) a2 b2]
end
theorem srtI_one {l m : List Int} (h : l.Perm m) (hs : l.Pairwise (· ≤ ·)) : l = srtI m := by
  refine srt_one (le := fun a b : Int => decide (a ≤ b)) (fun a b h1 h2 => ?_) (h.trans (srt_perm m).symm) (hs.imp fun h => decide_eq_true h) (srt_srt (fun a b => ?_) (fun a b c h1 h2 => ?_) m)
  · have := of_decide_eq_true h1; have := of_decide_eq_true h2; omega
  · rcases Int.le_total a b with z | z
    · exact .inl (decide_eq_true z)
    · exact .inr (decide_eq_true z)
  · have := of_decide_eq_true h1; have := of_decide_eq_true h2; exact decide_eq_true (by omega)
theorem lt2_iff {p q : Int × Int} : lt2 p q = true ↔ p.1 < q.1 ∨ (p.1 = q.1 ∧ p.2 < q.2) := by
  unfold lt2
  split
  · next h => simp [h]
  · next h =>
    simp only [decide_eq_true_eq]
    constructor
    · exact fun z => .inl z
    · rintro (z | ⟨z, _⟩)
      · exact z
      · exact absurd z h
theorem le2_iff {p q : Int × Int} : (!lt2 q p) = true ↔ ¬ (q.1 < p.1 ∨ (q.1 = p.1 ∧ q.2 < p.2)) := by
  rw [← lt2_iff]; simp
theorem le2_anti (a b : Int × Int) (h1 : (!lt2 b a) = true) (h2 : (!lt2 a b) = true) : a = b := by
  have := le2_iff.mp h1; have := le2_iff.mp h2
  exact Prod.ext (by omega) (by omega)
theorem le2_tot (a b : Int × Int) : (!lt2 b a) = true ∨ (!lt2 a b) = true := by
  rw [le2_iff, le2_iff]; omega
theorem le2_tr (a b c : Int × Int) (h1 : (!lt2 b a) = true) (h2 : (!lt2 c b) = true) : (!lt2 c a) = true := by
  have := le2_iff.mp h1; have := le2_iff.mp h2
  rw [le2_iff]; omega
theorem srtP_one {l m : List (Int × Int)} (h : l.Perm m) (hs : l.Pairwise fun a b => (!lt2 b a) = true) : l = srtP m :=
  srt_one (le := fun a b => !lt2 b a) le2_anti (h.trans (srt_perm m).symm) hs (srt_srt le2_tot le2_tr m)
theorem mem_dedup {α : Type} [DecidableEq α] {x : α} : ∀ {l : List α}, x ∈ dedup l ↔ x ∈ l
  | [] => by simp [dedup]
  | y :: r => by
    unfold dedup
    split
    · next h =>
      rw [mem_dedup, List.mem_cons]
      constructor
      · exact .inr
      · rintro (rfl | z)
        · exact h
        · exact z
    · next h => rw [List.mem_cons, List.mem_cons, mem_dedup]
theorem dedup_nodup {α : Type} [DecidableEq α] : ∀ l : List α, (dedup l).Nodup
  | [] => List.nodup_nil
  | y :: r => by
    unfold dedup
    split
    · exact dedup_nodup r
    · next h => exact List.nodup_cons.mpr ⟨fun z => h (mem_dedup.mp z), dedup_nodup r⟩
theorem perm_of_nodup {α : Type} [DecidableEq α] : ∀ {l m : List α}, l.Nodup → m.Nodup → (∀ x, x ∈ l ↔ x ∈ m) → l.Perm m
  | [], m, _, _, h => by
    cases m with
    | nil => exact List.Perm.refl _
    | cons y t => exact absurd ((h y).mpr (List.mem_cons_self ..)) (by simp)
  | x :: l, m, h1, h2, h => by
    obtain ⟨a, b⟩ := List.nodup_cons.mp h1
    have hx : x ∈ m := (h x).mp (List.mem_cons_self ..)
    have pm := List.perm_cons_erase hx
    have h3 : (m.erase x).Nodup := h2.erase x
    refine (List.Perm.cons x (perm_of_nodup b h3 fun y => ?_)).trans pm.symm
    rw [h2.mem_erase_iff]
    constructor
    · exact fun hy => ⟨fun e => a (e ▸ hy), (h y).mp (List.mem_cons_of_mem _ hy)⟩
    · rintro ⟨hy, hm⟩
      exact (List.mem_cons.mp ((h y).mpr hm)).resolve_left hy

/-! ### lists as they come -/
def LK (K : PySem.W.Frag) (k : Nat) (S : Store) (ds : List D) (H : Hp) (φ' : List Addr) (H' : Hp) (a : Addr) (vs : List V) : Prop :=
  match k with
  | 0 => FixL K H' a vs ∨ H' a = some (.lst vs) ∨ H' a = some (.tup vs)
  | 1 => H' a = some (.lst vs) ∧ ∃ n : Nat, φ'[n]? = some a ∧ S[n]? = some (.lst ds)
  | _ => H' a = some (.lst vs) ∧ a ∉ φ' ∧ H a = none
section
variable {X : Cx} {φ : List Addr} {H H0 : Hp} {S S' : Store} {d e z : D} {x y : V} {Q : VK} {K : PySem.W.Frag} {k : Nat} {a : Addr} {vs : List V} {ds : List D}
theorem LK.lst (h : LK K k S ds H0 φ H a vs) (hk : 1 ≤ k) : H a = some (.lst vs) := by
  unfold LK at h
  split at h
  · omega
  · exact h.1
  · exact h.1
theorem LK.any (h : LK K k S ds H0 φ H a vs) : SqL K H a vs ∨ H a = some (.tup vs) := by
  unfold LK at h
  split at h
  · rcases h with h | h | h
    · exact .inl h.sq
    · exact .inl (SqL.of h)
    · exact .inr h
  · exact .inl (SqL.of h.1)
  · exact .inl (SqL.of h.1)
/-- what a new list is worth -/
def NxtL (K : PySem.W.Frag) (φ : List Addr) (H : Hp) (S' : Store) (k : Nat) (ds : List D) (Q : VK) : Prop :=
  ∀ (φ' : List Addr) (H' : Hp) (a : Addr) (vs : List V), Ex φ H φ' H' → HS K φ' H' S' → Reps K φ' H' ds vs → LK K k S' ds H φ' H' a vs → Q (.ref a) H'
theorem NxtL.new (h : NxtL K φ H S 2 ds Q) (hs : HS K φ H S) (r : Reps K φ H ds vs) {p : Addr} (hp : H p = none) : Q (.ref p) (upd H p (.lst vs)) := by
  have e : Ex φ H φ (upd H p (.lst vs)) := Ex.new hp
  exact h φ _ p vs e (hs.side hp) (Reps.ext hs e _ _ r) ⟨upd_same, fun z => hs.live z hp, hp⟩
def cName : C → Option String
  | .all => some "all"
  | .any => some "any"
  | .sum => some "sum"
  | _ => none
def rCon (K : PySem.W.Frag) (c : C) (k : Nat) : List V → Hp → VK → Prop := fun xs H Q => ∃ (φ : List Addr) (S : Store) (ds : List D) (vs : List V) (a : Addr) (z : D) (H0 : Hp), xs = [.ref a] ∧ HS K φ H S ∧ Reps K φ H ds vs ∧ LK K k S ds H0 φ H a vs ∧ conD c ds = some z ∧ Nxt K φ H S z Q
theorem con_sim (R : Rm X) {c : C} {n : String} (h : cName c = some n) (hk : 1 ≤ k) : CallR X (.builtin n) (rCon X.K c k) := by
  intro pins s σ H xs us Q I r h'
  obtain ⟨φ, S, ds, vs, a, z, H0, rfl, hs, hr, lk, ho, q⟩ := h'
  have hl := lk.lst hk
  cases c <;> simp only [cName] at h <;> cases h
  case all =>
    obtain ⟨b, h1, h2⟩ := map_some ho
    subst h2
    rw [hr.bools h1] at hl
    exact cr_all R.calm pins s σ H _ us Q I r ⟨a, b, rfl, SqL.of hl, q.same hs (by simp only [Rep])⟩
  case any =>
    obtain ⟨b, h1, h2⟩ := map_some ho
    subst h2
    rw [hr.bools h1] at hl
    exact cr_any R.calm pins s σ H _ us Q I r ⟨a, b, rfl, SqL.of hl, q.same hs (by simp only [Rep])⟩
  case sum =>
    obtain ⟨b, h1, h2⟩ := map_some ho
    subst h2
    rw [hr.ints h1] at hl
    exact cr_sum R.calm pins s σ H _ us Q I r ⟨a, b, rfl, SqL.of hl, q.same hs (by simp only [Rep])⟩
theorem tup_sim (R : Rm X) : CallR X (.type "tuple") (rCon X.K .tup k) := by
  intro pins s σ H xs us Q I r h'
  obtain ⟨φ, S, ds, vs, a, z, H0, rfl, hs, hr, lk, ho, q⟩ := h'
  cases ho
  rcases lk.any with h | h
  · exact call_tuple_of pins s σ H _ us Q I r ⟨a, vs, rfl, .inl ⟨h, fun l hl => q.tup hs hr hl⟩⟩
  · exact call_tuple_of pins s σ H _ us Q I r ⟨a, vs, rfl, .inr ⟨SqT.of h, q.same hs (by simp only [Rep]; exact ⟨a, vs, rfl, h, hr⟩)⟩⟩
theorem lenL_sim (R : Rm X) : CallR X (.builtin "len") (rCon X.K .len k) := by
  intro pins s σ H xs us Q I r h'
  obtain ⟨φ, S, ds, vs, a, z, H0, rfl, hs, hr, lk, ho, q⟩ := h'
  cases ho
  refine call_len_seq pins s σ H _ us Q I r ⟨a, vs, rfl, ?_, ?_⟩
  · rcases lk.any with h | h
    · exact .inl h
    · exact .inr (SqT.of h)
  · rw [hr.len]; exact q.same hs (by simp only [Rep])
def rList (K : PySem.W.Frag) (k : Nat) (f : List D → Option (List D)) : List V → Hp → VK → Prop := fun xs H Q => ∃ (φ : List Addr) (S : Store) (ds es : List D) (vs : List V) (a : Addr) (H0 : Hp), xs = [.ref a] ∧ HS K φ H S ∧ Reps K φ H ds vs ∧ LK K k S ds H0 φ H a vs ∧ f ds = some es ∧ NxtL K φ H S 2 es Q
theorem list_sim (R : Rm X) : CallR X (.type "list") (rList X.K k some) := by
  intro pins s σ H xs us Q I r h'
  obtain ⟨φ, S, ds, es, vs, a, H0, rfl, hs, hr, lk, ho, q⟩ := h'
  cases ho
  refine call_list_of pins s σ H _ us Q I r ⟨a, vs, rfl, ?_, fun l hl => q.new hs hr hl⟩
  rcases lk.any with h | h
  · exact .inl h
  · exact .inr (SqT.of h)
/-- the two ints of a pair that lies in the heap -/
def prOf (H : Hp) : V → Int × Int
  | .ref t => match H t with
    | some (.tup [.int i, .int j]) => (i, j)
    | _ => (0, 0)
  | _ => (0, 0)
theorem Reps.pairs : ∀ {ds : List D} {vs : List V} {ps : List (Int × Int)}, Reps K φ H ds vs → asPairs ds = some ps →
    vs.map (prOf H) = ps ∧ ∀ v ∈ vs, ∃ t, v = V.ref t ∧ H t = some (.tup [.int (prOf H v).1, .int (prOf H v).2])
  | [], vs, ps, h, e => by
    simp only [Reps] at h
    simp [asPairs, mapO] at e
    subst h; subst e
    exact ⟨rfl, fun v hv => by simp at hv⟩
  | d :: ds, vs, ps, h, e => by
    simp only [Reps] at h
    obtain ⟨v, r, rfl, h2, h3⟩ := h
    unfold asPairs mapO at e
    cases q1 : asPair d with
    | none => rw [q1] at e; cases e
    | some p =>
      cases q2 : mapO asPair ds with
      | none => rw [q1, q2] at e; cases e
      | some t =>
        rw [q1, q2] at e
        cases e
        obtain ⟨i1, i2⟩ := Reps.pairs h3 q2
        have hd : d = ofPair p := by
          unfold asPair at q1
          split at q1
          · cases q1; rfl
          · cases q1
        subst hd
        simp only [ofPair, Rep, Reps] at h2
        obtain ⟨a, ws, rfl, ha, v1, r1, rfl, e1, v2, r2, rfl, e2, e3⟩ := h2
        subst e1; subst e2; subst e3
        have hp : prOf H (.ref a) = p := by unfold prOf; simp only [ha]
        refine ⟨by rw [List.map_cons, hp, i1], fun w hw => ?_⟩
        rcases List.mem_cons.mp hw with rfl | hw
        · exact ⟨a, rfl, by rw [hp]; exact ha⟩
        · exact i2 w hw
theorem reps_pairs : ∀ {vs : List V}, (∀ v ∈ vs, ∃ t, v = V.ref t ∧ H t = some (.tup [.int (prOf H v).1, .int (prOf H v).2])) → Reps K φ H ((vs.map (prOf H)).map ofPair) vs
  | [], _ => by simp only [List.map_nil, Reps]
  | v :: vs, h => by
    simp only [List.map_cons, Reps]
    refine ⟨v, vs, rfl, ?_, reps_pairs fun w hw => h w (List.mem_cons_of_mem _ hw)⟩
    obtain ⟨t, e, ht⟩ := h v (List.mem_cons_self ..)
    simp only [ofPair, Rep, Reps]
    exact ⟨t, _, e, ht, _, _, rfl, rfl, _, _, rfl, rfl, rfl⟩
theorem lexB_lt2 (p q : Int × Int) : SrtO.lexB p q = lt2 p q := rfl
theorem sorted_sim (R : Rm X) (hk : 1 ≤ k) : CallR X (.builtin "sorted") (rList X.K k sortD) := by
  intro pins s σ H xs us Q I r h'
  obtain ⟨φ, S, ds, es, vs, a, H0, rfl, hs, hr, lk, ho, q⟩ := h'
  have hl := lk.lst hk
  unfold sortD at ho
  split at ho
  · next ns h1 =>
    cases ho
    rw [hr.ints h1] at hl
    refine cr_sortedI pins s σ H _ us Q I r ⟨a, ns, rfl, SqL.of hl, fun ns' p pm pw hp => ?_⟩
    rw [srtI_one pm pw]
    exact q.new hs (reps_ints _) hp
  · split at ho
    · next ps h1 =>
      cases ho
      obtain ⟨e1, e2⟩ := hr.pairs h1
      refine cr_sortedPO pins s σ H _ us Q I r ⟨a, vs, prOf H, rfl, SqL.of hl, e2, fun ys p h3 h4 hp => ?_⟩
      have hy : ∀ v ∈ ys, ∃ t, v = V.ref t ∧ H t = some (.tup [.int (prOf H v).1, .int (prOf H v).2]) := fun v hv => e2 v (h4.perm.mem_iff.mp hv)
      have e3 : ys.map (prOf H) = srtP ps := by
        refine srtP_one (by rw [← e1]; exact h4.perm.map _) (List.pairwise_map.mpr (h3.imp fun {u v} h => ?_))
        have h' : SrtO.lexB (prOf H v) (prOf H u) = false := h
        rw [← lexB_lt2, h']; rfl
      have := reps_pairs (K := X.K) (φ := φ) hy
      rw [e3] at this
      exact q.new hs this hp
    · cases ho
end
end Wb

/-! W8: more calls, methods, slices. -/
namespace Wb
open PySem PySem.Spec PyProof.Rows L2
section
variable {X : Cx} {φ : List Addr} {H H0 : Hp} {S S' : Store} {d e z : D} {x y : V} {Q : VK} {K : PySem.W.Frag} {k : Nat} {a : Addr} {vs : List V} {ds : List D}
theorem repr_py (R : Rm X) : CallR X (.builtin "repr") (fun xs H Q => ∃ x p, xs = [x] ∧ Dp X.K H x p ∧ SeqAt.shaped p = true ∧ p.showable = true ∧ p.shown.length ≤ sizeLine ∧ Q (.str p.shown) H) := by
  intro pins s σ H xs us Q I r h'
  obtain ⟨x, p, rfl, hp, sh, hs, hz, q⟩ := h'
  obtain ⟨u, rfl, ru⟩ := vals1 r
  obtain ⟨as, hr⟩ := Dp.reads I p x u hp ru
  have hu := R.un
  have hd : p.depth ≤ 64 := SeqAt.depth_of_shaped sh
  have hn : p.hasDict = false := PyData.hasDict_of_canLay p (SeqAt.canLay_of_shaped sh)
  cases hr with
  | none => exact P.repr_of_none ⟨.str _, H, I.tok _, ⟨_, rfl⟩, by simpa only [PyData.shown] using q⟩
  | bool b => exact P.repr_of_bool ⟨.str _, H, I.tok _, ⟨_, rfl⟩, by simpa only [PyData.shown] using q⟩
  | int i t => exact P.repr_of_int (by simpa [PyData.showable] using hs) ⟨.str _, H, I.tok _, ⟨_, rfl⟩, by simpa only [PyData.shown] using q⟩
  | str z t => exact P.repr_of_str (hsz := by simpa only [PyData.shown] using hz) ⟨.str _, H, I.tok _, ⟨_, rfl⟩, by simpa only [PyData.shown] using q⟩
  | list h1 h2 h3 h4 =>
    exact repr_of_reads' (.list h1 h2 h3 h4) hs (PyData.noDict_hsm hn) R.gd (by omega) (fun _ _ e => e) (fun h' u tk kp => ⟨.str _, H, I.kept (t' := tk) kp, ⟨u, rfl⟩, q⟩) hz
  | tuple h1 h2 h3 h4 =>
    exact repr_of_reads' (.tuple h1 h2 h3 h4) hs (PyData.noDict_hsm hn) R.gd (by omega) (fun _ _ e => e) (fun h' u tk kp => ⟨.str _, H, I.kept (t' := tk) kp, ⟨u, rfl⟩, q⟩) hz
  | dict h1 h2 h3 h4 h5 => simp [PyData.hasDict] at hn
def bName : B → Option Value
  | .len => some (.builtin "len")
  | .repr => some (.builtin "repr")
  | .int => some (.type "int")
  | .str => some (.type "str")
  | .abs => some (.builtin "abs")
  | _ => none
def rBlt (K : PySem.W.Frag) (b : B) : List V → Hp → VK → Prop := fun xs H Q => ∃ (φ : List Addr) (S : Store) (ds : List D) (z : D), HS K φ H S ∧ Reps K φ H ds xs ∧ bltD S b ds = some z ∧ ∀ v, Rep K φ H z v → Q v H
theorem Reps.one_v {v : List V} (h : Reps K φ H [d] v) : ∃ x, v = [x] ∧ Rep K φ H d x := by
  simp only [Reps] at h
  obtain ⟨x, r, rfl, h1, rfl⟩ := h
  exact ⟨x, rfl, h1⟩
theorem blt_sim (R : Rm X) {b : B} {f : Value} (h : bName b = some f) : CallR X f (rBlt X.K b) := by
  intro pins s σ H xs us Q I r h'
  obtain ⟨φ, S, ds, z, hs, hr, ho, q⟩ := h'
  cases b <;> simp only [bName] at h <;> cases h
  case len =>
    match ds, ho with
    | [.tup ys], ho =>
      simp only [bltD] at ho
      cases ho
      obtain ⟨x, rfl, h1⟩ := hr.one_v
      simp only [Rep] at h1
      obtain ⟨a, vs, rfl, ha, h2⟩ := h1
      exact call_len_seq pins s σ H _ us Q I r ⟨a, vs, rfl, .inr (SqT.of ha), by rw [h2.len]; exact q _ (by simp only [Rep])⟩
    | [.fix ys], ho =>
      simp only [bltD] at ho
      cases ho
      obtain ⟨x, rfl, h1⟩ := hr.one_v
      simp only [Rep] at h1
      obtain ⟨a, vs, rfl, ha, h2⟩ := h1
      exact call_len_seq pins s σ H _ us Q I r ⟨a, vs, rfl, .inl ha.sq, by rw [h2.len]; exact q _ (by simp only [Rep])⟩
    | [.str t], ho =>
      simp only [bltD] at ho
      split at ho
      · next hz =>
        cases ho
        obtain ⟨x, rfl, h1⟩ := hr.one_v
        simp only [Rep] at h1
        subst h1
        exact call_len_str pins s σ H _ us Q I r ⟨t, rfl, sz_top (Nat.le_succ_of_le (small_le hz)), q _ (by simp only [Rep])⟩
      · cases ho
    | [.ref n], ho =>
      simp only [bltD] at ho
      obtain ⟨x, rfl, h1⟩ := hr.one_v
      simp only [Rep] at h1
      obtain ⟨a, rfl, ha⟩ := h1
      obtain ⟨o, ho1, ro⟩ := hs.sget ha
      rw [ho1] at ho
      cases o with
      | lst ys =>
        cases ho
        obtain ⟨vs, hv, h2⟩ := ro
        exact call_len_seq pins s σ H _ us Q I r ⟨a, vs, rfl, .inl (SqL.of hv), by rw [h2.len]; exact q _ (by simp only [Rep])⟩
      | dik kvs =>
        cases ho
        obtain ⟨ws, hv, h2⟩ := ro
        obtain ⟨u, rfl, ru⟩ := vals1 r
        cases (show u = Value.ref a from ru)
        exact d_len I (.inl hv) fun t s' I' => ⟨.int _, H, I', ⟨t, rfl⟩, by rw [h2.len]; exact q _ (by simp only [Rep])⟩
      | dit kvs => cases ho
    | [], ho => simp [bltD] at ho
    | [.non], ho => simp [bltD] at ho
    | [.bl _], ho => simp [bltD] at ho
    | [.int _], ho => simp [bltD] at ho
    | a :: b :: t, ho => cases a <;> simp [bltD] at ho
  case repr =>
    match ds, ho with
    | [d], ho =>
      have ho' : reprD S d = some z := by cases d <;> simpa only [bltD] using ho
      unfold reprD at ho'
      split at ho'
      · next p h1 =>
        split at ho'
        · next h2 =>
          cases ho'
          simp only [Bool.and_eq_true] at h2
          obtain ⟨x, rfl, h3⟩ := hr.one_v
          obtain ⟨h4, h5⟩ := pyOk_dp hs h1 h3
          exact repr_py R pins s σ H _ us Q I r ⟨x, p, rfl, h4, h5, h2.1, sz_top (Nat.le_succ_of_le (small_le h2.2)), q _ (by simp only [Rep])⟩
        · cases ho'
      · cases ho'
    | [], ho => simp [bltD] at ho
    | a :: b :: t, ho => cases a <;> simp [bltD] at ho
  case int =>
    match ds, ho with
    | [.int i], ho =>
      simp only [bltD] at ho
      cases ho
      obtain ⟨x, rfl, h1⟩ := hr.one_v
      simp only [Rep] at h1
      subst h1
      exact call_int1 pins s σ H _ us Q I r (.inl ⟨i, rfl, q _ (by simp only [Rep])⟩)
    | [.bl b], ho =>
      simp only [bltD] at ho
      cases ho
      obtain ⟨x, rfl, h1⟩ := hr.one_v
      simp only [Rep] at h1
      subst h1
      exact call_int1 pins s σ H _ us Q I r (.inr ⟨b, rfl, q _ (by simp only [Rep])⟩)
    | [], ho => simp [bltD] at ho
    | [.non], ho => simp [bltD] at ho
    | [.str _], ho => simp [bltD] at ho
    | [.tup _], ho => simp [bltD] at ho
    | [.fix _], ho => simp [bltD] at ho
    | [.ref _], ho => simp [bltD] at ho
    | a :: b :: t, ho => cases a <;> simp [bltD] at ho
  case str =>
    match ds, ho with
    | [.int i], ho =>
      simp only [bltD] at ho
      split at ho
      · next hz =>
        cases ho
        obtain ⟨x, rfl, h1⟩ := hr.one_v
        simp only [Rep] at h1
        subst h1
        exact call_str_int pins s σ H _ us Q I r ⟨i, rfl, of_decide_eq_true hz, q _ (by simp only [Rep])⟩
      · cases ho
    | [], ho => simp [bltD] at ho
    | [.bl _], ho => simp [bltD] at ho
    | [.non], ho => simp [bltD] at ho
    | [.str _], ho => simp [bltD] at ho
    | [.tup _], ho => simp [bltD] at ho
    | [.fix _], ho => simp [bltD] at ho
    | [.ref _], ho => simp [bltD] at ho
    | a :: b :: t, ho => cases a <;> simp [bltD] at ho
  case abs =>
    match ds, ho with
    | [.int i], ho =>
      simp only [bltD] at ho
      cases ho
      obtain ⟨x, rfl, h1⟩ := hr.one_v
      simp only [Rep] at h1
      subst h1
      exact call_abs pins s σ H _ us Q I r ⟨i, rfl, q _ (by simp only [Rep])⟩
    | [], ho => simp [bltD] at ho
    | [.bl _], ho => simp [bltD] at ho
    | [.non], ho => simp [bltD] at ho
    | [.str _], ho => simp [bltD] at ho
    | [.tup _], ho => simp [bltD] at ho
    | [.fix _], ho => simp [bltD] at ho
    | [.ref _], ho => simp [bltD] at ho
    | a :: b :: t, ho => cases a <;> simp [bltD] at ho
/-- isinstance -/
def tyN : B → String
  | .isInt => "int"
  | .isBool => "bool"
  | .isStr => "str"
  | .isTup => "tuple"
  | _ => "list"
theorem isi_sim : CallR X (.builtin "isinstance") (fun xs H Q => ∃ (φ : List Addr) (S : Store) (d : D) (x : V) (b : B) (k : Bool), xs = [x, .ty (tyN b)] ∧ HS X.K φ H S ∧ Rep X.K φ H d x ∧ isiD S b d = some k ∧ Q (.bl k) H) := by
  intro pins s σ H xs us Q I r h'
  obtain ⟨φ, S, d, x, b, k, rfl, hs, hr, ho, q⟩ := h'
  have go : ∀ {t : String}, TyX X.K H x (.type t) → kitB t (tyN b) = some k → wpAny (model X.prog X.w) X.A (PySem.call (.builtin "isinstance") us) (EP X pins σ Q) X.xe s := fun ty e =>
    call_isi pins s σ H _ us Q I r ⟨x, _, _, _, k, rfl, .ty _, ty, kit_ty e, q⟩
  cases d with
  | non =>
    simp only [Rep] at hr
    subst hr
    cases b <;> simp only [isiD] at ho <;> cases ho <;> exact go (.base .non) (by decide +kernel)
  | bl c =>
    simp only [Rep] at hr
    subst hr
    cases b <;> simp only [isiD] at ho <;> cases ho <;> exact go (.base (.bl c)) (by decide +kernel)
  | int c =>
    simp only [Rep] at hr
    subst hr
    cases b <;> simp only [isiD] at ho <;> cases ho <;> exact go (.base (.int c)) (by decide +kernel)
  | str c =>
    simp only [Rep] at hr
    subst hr
    cases b <;> simp only [isiD] at ho <;> cases ho <;> exact go (.base (.str c)) (by decide +kernel)
  | tup c =>
    simp only [Rep] at hr
    obtain ⟨a, vs, rfl, ha, h2⟩ := hr
    cases b <;> simp only [isiD] at ho <;> cases ho <;> exact go (.base (.tup ha)) (by decide +kernel)
  | fix c =>
    simp only [Rep] at hr
    obtain ⟨a, vs, rfl, ha, h2⟩ := hr
    rcases ha with ⟨o, ha⟩ | ⟨o, its, n, h1, h3, _⟩
    · cases b <;> simp only [isiD] at ho <;> cases ho <;> exact go (.base (.frz ha)) (by decide +kernel)
    · cases b <;> simp only [isiD] at ho <;> cases ho <;> exact go (.kList h1 h3) (by decide +kernel)
  | ref n =>
    simp only [Rep] at hr
    obtain ⟨a, rfl, ha⟩ := hr
    obtain ⟨o, ho1, ro⟩ := hs.sget ha
    cases o with
    | lst ys =>
      obtain ⟨vs, hv, h2⟩ := ro
      cases b <;> simp only [isiD, ho1] at ho <;> cases ho <;> exact go (.base (.lst hv)) (by decide +kernel)
    | dik ys =>
      obtain ⟨vs, hv, h2⟩ := ro
      cases b <;> simp only [isiD, ho1] at ho <;> cases ho <;> exact go (.base (.dK hv)) (by decide +kernel)
    | dit ys =>
      obtain ⟨vs, hv, h2⟩ := ro
      cases b <;> simp only [isiD, ho1] at ho <;> cases ho <;> exact go (.base (.dT hv)) (by decide +kernel)

/-! ### methods -/
def mName : M → Option String
  | .append => some "list.append"
  | .pop => some "list.pop"
  | .popAt => some "list.pop"
  | _ => none
def rMeth (K : PySem.W.Frag) (m : M) : V → List V → Hp → VK → Prop := fun x xs H Q => ∃ (φ : List Addr) (S : Store) (d : D) (ds : List D) (z : D) (S' : Store), HS K φ H S ∧ Rep K φ H d x ∧ Reps K φ H ds xs ∧ methD S m d ds = some (z, S') ∧ Nxt K φ H S' z Q
theorem Reps.dropLast {ds : List D} {vs : List V} (h : Reps K φ H ds vs) : Reps K φ H ds.dropLast vs.dropLast := by
  rw [List.dropLast_eq_take, List.dropLast_eq_take, h.len]; exact h.take _
theorem Reps.eraseIdx : ∀ {ds : List D} {vs : List V} (i : Nat), Reps K φ H ds vs → Reps K φ H (ds.eraseIdx i) (vs.eraseIdx i)
  | [], vs, i, h => by simp only [Reps] at h; rw [h]; simp only [List.eraseIdx_nil, Reps]
  | d :: ds, vs, 0, h => by
    simp only [Reps] at h
    obtain ⟨v, r, rfl, _, h3⟩ := h
    simpa using h3
  | d :: ds, vs, i + 1, h => by
    simp only [Reps] at h
    obtain ⟨v, r, rfl, h2, h3⟩ := h
    simp only [List.eraseIdx_cons_succ, Reps]
    exact ⟨v, r.eraseIdx i, rfl, h2, Reps.eraseIdx i h3⟩
theorem meth_sim {m : M} {n : String} (h : mName m = some n) : MtR X n (rMeth X.K m) := by
  intro pins s σ H x xs v us Q I rx rs h'
  obtain ⟨φ, S, d, ds, z, S', hs, hd, hr, ho, q⟩ := h'
  cases m <;> simp only [mName] at h <;> cases h
  case append =>
    match d, ds, ho with
    | .ref n, [e], ho =>
      simp only [methD] at ho
      simp only [Rep] at hd
      obtain ⟨a, rfl, ha⟩ := hd
      obtain ⟨o, ho1, ro⟩ := hs.sget ha
      rw [ho1] at ho
      cases o with
      | lst ys =>
        simp only at ho
        split at ho
        · next hz =>
          cases ho
          obtain ⟨vs, hv, h2⟩ := ro
          obtain ⟨w, rfl, h3⟩ := hr.one_v
          have hl : vs.length < sizeLine := by
            have := small_le hz
            have h5 := sz_top (n := ys.length + 1) (by omega)
            rw [h2.len]; omega
          have hm := hs.mutEx (u := HO.lst (vs ++ [w])) ha
          refine mt_append pins s σ H _ _ v us Q I rx rs ⟨a, vs, w, rfl, rfl, hv, hl, q φ _ _ hm ?_ (by simp only [Rep])⟩
          exact hs.set ho1 ha ⟨_, upd_same, Reps.app (Reps.ext hs hm _ _ h2) (Reps.one (Rep.ext hs hm _ _ h3))⟩
        · cases ho
      | dik _ => cases ho
      | dit _ => cases ho
    | .ref n, [], ho => simp [methD] at ho
    | .ref n, _ :: _ :: _, ho => simp [methD] at ho
    | .non, _, ho => simp [methD] at ho
    | .bl _, _, ho => simp [methD] at ho
    | .int _, _, ho => simp [methD] at ho
    | .str _, _, ho => simp [methD] at ho
    | .tup _, _, ho => simp [methD] at ho
    | .fix _, _, ho => simp [methD] at ho
  case pop =>
    match d, ds, ho with
    | .ref n, [], ho =>
      simp only [methD] at ho
      simp only [Rep] at hd
      obtain ⟨a, rfl, ha⟩ := hd
      obtain ⟨o, ho1, ro⟩ := hs.sget ha
      rw [ho1] at ho
      cases o with
      | lst ys =>
        simp only at ho
        split at ho
        · next d hz =>
          cases ho
          obtain ⟨vs, hv, h2⟩ := ro
          simp only [Reps] at hr
          subst hr
          rw [List.getLast?_eq_getElem?] at hz
          obtain ⟨w, h3, h4⟩ := h2.at_ hz
          have hm := hs.mutEx (u := HO.lst vs.dropLast) ha
          refine mt_pop pins s σ H _ _ v us Q I rx rs ⟨a, vs, w, rfl, rfl, hv, by rw [h2.len]; exact h3, q φ _ _ hm ?_ (Rep.ext hs hm _ _ h4)⟩
          exact hs.set ho1 ha ⟨_, upd_same, Reps.dropLast (Reps.ext hs hm _ _ h2)⟩
        · cases ho
      | dik _ => cases ho
      | dit _ => cases ho
    | .ref n, _ :: _, ho => simp [methD] at ho
    | .non, _, ho => simp [methD] at ho
    | .bl _, _, ho => simp [methD] at ho
    | .int _, _, ho => simp [methD] at ho
    | .str _, _, ho => simp [methD] at ho
    | .tup _, _, ho => simp [methD] at ho
    | .fix _, _, ho => simp [methD] at ho
  case popAt =>
    match d, ds, ho with
    | .ref n, [.int i], ho =>
      simp only [methD] at ho
      simp only [Rep] at hd
      obtain ⟨a, rfl, ha⟩ := hd
      obtain ⟨o, ho1, ro⟩ := hs.sget ha
      rw [ho1] at ho
      cases o with
      | lst ys =>
        simp only at ho
        split at ho
        · next hz =>
          obtain ⟨d, h3, h4⟩ := map_some ho
          cases h4
          obtain ⟨vs, hv, h2⟩ := ro
          obtain ⟨w, rfl, h5⟩ := hr.one_v
          simp only [Rep] at h5
          subst h5
          obtain ⟨w, h6, h7⟩ := h2.at_ h3
          have hm := hs.mutEx (u := HO.lst (vs.eraseIdx i.toNat)) ha
          have hl := h2.len
          refine mt_popAt pins s σ H _ _ v us Q I rx rs ⟨a, vs, i, i.toNat, w, rfl, rfl, hv, by omega, by omega, seqIndex_of hz.1 (by omega), h6, q φ _ _ hm ?_ (Rep.ext hs hm _ _ h7)⟩
          exact hs.set ho1 ha ⟨_, upd_same, Reps.eraseIdx _ (Reps.ext hs hm _ _ h2)⟩
        · cases ho
      | dik _ => cases ho
      | dit _ => cases ho
    | .ref n, [], ho => simp [methD] at ho
    | .ref n, [.non], ho => simp [methD] at ho
    | .ref n, [.bl _], ho => simp [methD] at ho
    | .ref n, [.str _], ho => simp [methD] at ho
    | .ref n, [.tup _], ho => simp [methD] at ho
    | .ref n, [.fix _], ho => simp [methD] at ho
    | .ref n, [.ref _], ho => simp [methD] at ho
    | .ref n, a :: _ :: _, ho => cases a <;> simp [methD] at ho
    | .non, _, ho => simp [methD] at ho
    | .bl _, _, ho => simp [methD] at ho
    | .int _, _, ho => simp [methD] at ho
    | .str _, _, ho => simp [methD] at ho
    | .tup _, _, ho => simp [methD] at ho
    | .fix _, _, ho => simp [methD] at ho
/-- xs.extend(a list) -/
def rExt (K : PySem.W.Frag) (k : Nat) : V → List V → Hp → VK → Prop := fun x xs H Q => ∃ (φ : List Addr) (S : Store) (n : Nat) (ys ds : List D) (vs : List V) (b : Addr) (H0 : Hp), HS K φ H S ∧ Rep K φ H (.ref n) x ∧ xs = [.ref b] ∧ Reps K φ H ds vs ∧ LK K k S ds H0 φ H b vs ∧
  S[n]? = some (.lst ys) ∧ small (ys.length + ds.length) = true ∧ Nxt K φ H (S.set n (.lst (ys ++ ds))) .non Q
theorem ext_sim (hk : 1 ≤ k) : MtR X "list.extend" (rExt X.K k) := by
  intro pins s σ H x xs v us Q I rx rs h'
  obtain ⟨φ, S, n, ys, ds, vs, b, H0, hs, hd, rfl, hr, lk, ho1, hz, q⟩ := h'
  simp only [Rep] at hd
  obtain ⟨a, rfl, ha⟩ := hd
  obtain ⟨ws, hv, h2⟩ : ORep X.K φ H (.lst ys) a := hs.ob n _ a ho1 ha
  have hm := hs.mutEx (u := HO.lst (ws ++ vs)) ha
  have l1 := h2.len
  have l2 := hr.len
  refine mt_extend pins s σ H _ _ v us Q I rx rs ⟨a, b, ws, vs, rfl, rfl, hv, lk.lst hk, by rw [l1, l2]; exact sz_top (Nat.le_succ_of_le (small_le hz)), q φ _ _ hm ?_ (by simp only [Rep])⟩
  exact hs.set ho1 ha ⟨_, upd_same, Reps.app (Reps.ext hs hm _ _ h2) (Reps.ext hs hm _ _ hr)⟩

/-! ### lists put together, slices -/
def rCatL (K : PySem.W.Frag) : R2 := fun x y H Q => ∃ (φ : List Addr) (S : Store) (ds es : List D) (vs ws : List V) (a b : Addr), x = .ref a ∧ y = .ref b ∧ HS K φ H S ∧ Reps K φ H ds vs ∧ Reps K φ H es ws ∧ H a = some (.lst vs) ∧ H b = some (.lst ws) ∧ small (ds.length + es.length) = true ∧ NxtL K φ H S 2 (ds ++ es) Q
theorem cat_sim : OpR X (binaryOp .Add) (rCatL X.K) := by
  intro pins s σ H x y v u Q I rx ry h
  obtain ⟨φ, S, ds, es, vs, ws, a, b, rfl, rfl, hs, h1, h2, ha, hb, hz, q⟩ := h
  refine op_cat pins s σ H _ _ v u Q I rx ry ⟨a, b, vs, ws, rfl, rfl, ha, hb, by rw [h1.len, h2.len]; exact sz_top (Nat.le_succ_of_le (small_le hz)), fun p hp => q.new hs (Reps.app h1 h2) hp⟩
theorem Reps.rep (h : Reps K φ H ds vs) : ∀ n : Nat, Reps K φ H (List.replicate n ds).flatten (List.replicate n vs).flatten
  | 0 => by simp only [List.replicate_zero, List.flatten_nil, Reps]
  | n + 1 => by simp only [List.replicate_succ, List.flatten_cons]; exact Reps.app h (Reps.rep h n)
def rRepL (K : PySem.W.Frag) : R2 := fun x y H Q => ∃ (φ : List Addr) (S : Store) (ds : List D) (vs : List V) (a : Addr) (k : Int), x = .ref a ∧ y = .int k ∧ HS K φ H S ∧ Reps K φ H ds vs ∧ H a = some (.lst vs) ∧ ds.length ≤ 1000 ∧ -1000 ≤ k ∧ k ≤ 1000 ∧ NxtL K φ H S 2 (List.replicate k.toNat ds).flatten Q
theorem rep_sim : OpR X (binaryOp .Mult) (rRepL X.K) := by
  intro pins s σ H x y v u Q I rx ry h
  obtain ⟨φ, S, ds, vs, a, k, rfl, rfl, hs, h1, ha, h2, h3, h4, q⟩ := h
  refine op_rep pins s σ H _ _ v u Q I rx ry ⟨a, k, vs, rfl, rfl, ha, by omega, by omega, ?_, fun p hp => q.new hs (h1.rep _) hp⟩
  rw [h1.len]
  have h5 : ds.length * k.toNat ≤ 1000 * 1000 := Nat.mul_le_mul h2 (by omega)
  exact sz_top (by omega)
theorem Reps.cut {lo hi : Option Int} (h : Reps K φ H ds vs) : Reps K φ H (Wb.cut ds lo hi) (cutV vs lo hi) := by
  unfold Wb.cut cutV
  rw [h.len]
  exact (h.drop _).take _
/-- t[lo:hi], s[lo:hi] -/
def rSlD (K : PySem.W.Frag) : V → Option Int → Option Int → Hp → VK → Prop := fun x lo hi H Q => ∃ (φ : List Addr) (S : Store) (d z : D), HS K φ H S ∧ Rep K φ H d x ∧ slD lo hi d = some z ∧ Nxt K φ H S z Q
theorem slD_sim : SlR X (rSlD X.K) := by
  intro pins s σ H x v vl vu lo hi sl Q I rx hsl pl pu h
  obtain ⟨φ, S, d, z, hs, hd, ho, q⟩ := h
  cases d <;> simp only [slD] at ho <;> try (cases ho; done)
  case tup ds =>
    cases ho
    simp only [Rep] at hd
    obtain ⟨a, vs, rfl, ha, hr⟩ := hd
    refine sl_tupA pins s σ H _ v vl vu lo hi sl Q I rx hsl pl pu ⟨a, vs, rfl, SqT.of ha, fun hw => ?_, fun _ p hp => q.tup hs hr.cut hp⟩
    have e : cutV vs lo hi = vs := by
      unfold cutV
      rw [hw.1, hw.2]; simp
    have hc := hr.cut (lo := lo) (hi := hi)
    rw [e] at hc
    exact q.same hs (by simp only [Rep]; exact ⟨a, vs, rfl, ha, hc⟩)
  case str t =>
    split at ho
    · next hz =>
      cases ho
      simp only [Rep] at hd
      exact sl_str pins s σ H _ v vl vu lo hi sl Q I rx hsl pl pu ⟨t, hd, sz_top (Nat.le_succ_of_le (small_le hz)), q.same hs (by simp only [Rep])⟩
    · cases ho
/-- a list's slice: a new list -/
def rSlN (K : PySem.W.Frag) : V → Option Int → Option Int → Hp → VK → Prop := fun x lo hi H Q => ∃ (φ : List Addr) (S : Store) (d : D) (ds : List D), HS K φ H S ∧ Rep K φ H d x ∧ listAt S d = some ds ∧ NxtL K φ H S 2 (Wb.cut ds lo hi) Q
theorem slN_sim : SlR X (rSlN X.K) := by
  intro pins s σ H x v vl vu lo hi sl Q I rx hsl pl pu h
  obtain ⟨φ, S, d, ds, hs, hd, ho, q⟩ := h
  cases d <;> simp only [listAt] at ho <;> try (cases ho; done)
  case fix ys =>
    cases ho
    simp only [Rep] at hd
    obtain ⟨a, vs, rfl, ha, hr⟩ := hd
    exact sl_list pins s σ H _ v vl vu lo hi sl Q I rx hsl pl pu ⟨a, vs, rfl, ha.sq, fun p hp => q.new hs hr.cut hp⟩
  case ref n =>
    simp only [Rep] at hd
    obtain ⟨a, rfl, ha⟩ := hd
    obtain ⟨o, ho1, ro⟩ := hs.sget ha
    rw [ho1] at ho
    cases o with
    | lst ys =>
      cases ho
      obtain ⟨vs, hv, hr⟩ := ro
      exact sl_list pins s σ H _ v vl vu lo hi sl Q I rx hsl pl pu ⟨a, vs, rfl, SqL.of hv, fun p hp => q.new hs hr.cut hp⟩
    | dik _ => cases ho
    | dit _ => cases ho
end
end Wb

/-! W9: readings by plain data, one lemma a construct. -/
namespace Wb
open PySem PySem.Spec PyProof.Rows L2
section
variable {X : Cx}
theorem _root_.L2.PE.imp {e : Expr} {t t' : TE} (h : PE X e t) (i : ∀ σ H Q, t' σ H Q → t σ H Q) : PE X e t' := ⟨fun pins s σ H Q I q => h.run pins s σ H Q I (i σ H Q q)⟩
theorem _root_.L2.PT.imp {e : Expr} {t t' : TT} (h : PT X e t) (i : ∀ σ H Q, t' σ H Q → t σ H Q) : PT X e t' := ⟨fun pins s σ H Q I q => h.run pins s σ H Q I (i σ H Q q)⟩
theorem _root_.L2.PW.imp {e : Expr} {t t' : TT} (h : PW X e t) (i : ∀ σ H Q, t' σ H Q → t σ H Q) : PW X e t' := ⟨fun wh pins s σ H Q I q => h.run wh pins s σ H Q I (i σ H Q q)⟩
theorem _root_.L2.PA.imp {es : List Expr} {t t' : TA} (h : PA X es t) (i : ∀ σ H Q, t' σ H Q → t σ H Q) : PA X es t' := ⟨fun p pins s σ H Q I q => h.run p pins s σ H Q I (i σ H Q q)⟩
theorem _root_.L2.PO.imp {e : Option Expr} {t t' : TO} (h : PO X e t) (i : ∀ σ H Q, t' σ H Q → t σ H Q) : PO X e t' := ⟨fun pins s σ H Q I q => h.run pins s σ H Q I (i σ H Q q)⟩
theorem _root_.L2.PG.imp {e : Expr} {t t' : TG} (h : PG X e t) (i : ∀ v σ H Q, t' v σ H Q → t v σ H Q) : PG X e t' := ⟨fun pins s σ H v u Q I r q => h.run pins s σ H v u Q I r (i v σ H Q q)⟩
theorem _root_.L2.PGs.imp {es : List Expr} {t t' : TGs} (h : PGs X es t) (i : ∀ vs σ H Q, t' vs σ H Q → t vs σ H Q) : PGs X es t' := ⟨fun pins s σ H vs us Q I r q => h.run pins s σ H vs us Q I r (i vs σ H Q q)⟩
theorem _root_.L2.PI.imp {tg e : Expr} {t t' : TI} (h : PI X tg e t) (i : ∀ σ H Q, t' σ H Q → t σ H Q) : PI X tg e t' := ⟨fun pins s σ H R I q => h.run pins s σ H R I (i σ H R q)⟩
theorem _root_.L2.PS.imp {st : Stmt} {t t' : TS} (h : PS X st t) (i : ∀ D σ H, t' D σ H → t D σ H) : PS X st t' := ⟨fun pins s σ H D I q => h.run pins s σ H D I (i D σ H q)⟩
theorem _root_.L2.PSs.imp {st : List Stmt} {t t' : TS} (h : PSs X st t) (i : ∀ D σ H, t' D σ H → t D σ H) : PSs X st t' := ⟨fun pins s σ H D I q => h.run pins s σ H D I (i D σ H q)⟩
end
/-- an expression's reading by plain data -/
def tEv (K : PySem.W.Frag) (ev : Env → Store → Res D) : TE := fun σ H Q => ∃ (φ : List Addr) (r : Env) (S : Store) (d : D) (S' : Store), VS K φ H r σ ∧ HS K φ H S ∧ ev r S = .ok d S' ∧ Nxt K φ H S' d Q
def tTv (K : PySem.W.Frag) (ev : Env → Store → Res Bool) : TT := fun σ H Q => ∃ (φ : List Addr) (r : Env) (S : Store) (b : Bool) (S' : Store), VS K φ H r σ ∧ HS K φ H S ∧ ev r S = .ok b S' ∧ ∀ φ' H', Ex φ H φ' H' → HS K φ' H' S' → Q b H'
def tLv (K : PySem.W.Frag) (k : Nat) (ev : Env → Store → Res (List D)) : TE := fun σ H Q => ∃ (φ : List Addr) (r : Env) (S : Store) (ds : List D) (S' : Store), VS K φ H r σ ∧ HS K φ H S ∧ ev r S = .ok ds S' ∧ NxtL K φ H S' k ds Q
def tAv (K : PySem.W.Frag) (ev : Env → Store → Res (List D)) : TA := fun σ H Q => ∃ (φ : List Addr) (r : Env) (S : Store) (ds : List D) (S' : Store), VS K φ H r σ ∧ HS K φ H S ∧ ev r S = .ok ds S' ∧ ∀ φ' vs H', Ex φ H φ' H' → HS K φ' H' S' → Reps K φ' H' ds vs → Q vs H'
def tOv (K : PySem.W.Frag) (ev : Env → Store → Res (Option Int)) : TO := fun σ H Q => ∃ (φ : List Addr) (r : Env) (S : Store) (o : Option Int) (S' : Store), VS K φ H r σ ∧ HS K φ H S ∧ ev r S = .ok o S' ∧ ∀ φ' H', Ex φ H φ' H' → HS K φ' H' S' → Q o H'
/-- slots outside js stay -/
def Stay (js : List Nat) (σ σ' : L2.St) : Prop := σ'.length = σ.length ∧ ∀ j, j ∉ js → σ'[j]? = σ[j]?
def tGv (K : PySem.W.Frag) (js : List Nat) (ev : D → Env → Store → Res Env) : TG := fun v σ H Q => ∃ (φ : List Addr) (r : Env) (S : Store) (d : D) (r' : Env) (S' : Store), VS K φ H r σ ∧ HS K φ H S ∧ Rep K φ H d v ∧ ev d r S = .ok r' S' ∧
  ∀ φ' σ' H', Ex φ H φ' H' → HS K φ' H' S' → VS K φ' H' r' σ' → Stay js σ σ' → Q σ' H'
def tGsv (K : PySem.W.Frag) (js : List Nat) (ev : List D → Env → Store → Res Env) : TGs := fun vs σ H Q => ∃ (φ : List Addr) (r : Env) (S : Store) (ds : List D) (r' : Env) (S' : Store), VS K φ H r σ ∧ HS K φ H S ∧ Reps K φ H ds vs ∧ ev ds r S = .ok r' S' ∧
  ∀ φ' σ' H', Ex φ H φ' H' → HS K φ' H' S' → VS K φ' H' r' σ' → Stay js σ σ' → Q σ' H'
def EndOk (K : PySem.W.Frag) (φ' : List Addr) (H' : Hp) (D : Ends) : Out → Prop
  | .nx r => ∀ σ, VS K φ' H' r σ → D.nx σ H'
  | .bk r => ∀ σ, VS K φ' H' r σ → D.bk σ H'
  | .ct r => ∀ σ, VS K φ' H' r σ → D.ct σ H'
  | .rt d => ∀ v, Rep K φ' H' d v → D.rt v H'
def tSv (K : PySem.W.Frag) (ev : Env → Store → Res Out) : TS := fun D σ H => ∃ (φ : List Addr) (r : Env) (S : Store) (o : Out) (S' : Store), VS K φ H r σ ∧ HS K φ H S ∧ ev r S = .ok o S' ∧ ∀ φ' H', Ex φ H φ' H' → HS K φ' H' S' → EndOk K φ' H' D o
theorem bind_ok {α β : Type} {m : Res α} {f : α → Store → Res β} {b : β} {S' : Store} (h : m.bind f = .ok b S') : ∃ a S1, m = .ok a S1 ∧ f a S1 = .ok b S' := by
  cases m with
  | ok a S1 => exact ⟨a, S1, rfl, h⟩
  | exc x S1 => cases h
  | bad => cases h
theorem opt_ok {α : Type} {o : Option α} {S S' : Store} {a : α} (h : Res.opt S o = .ok a S') : o = some a ∧ S' = S := by
  cases o with
  | none => cases h
  | some b => cases h; exact ⟨rfl, rfl⟩
section
variable {X : Cx} {K : PySem.W.Frag} {φ φ1 φ' : List Addr} {H H1 H' : Hp} {S S1 S' : Store} {d : D} {Q : VK} {r : Env} {σ : L2.St}
theorem Nxt.of (e : Ex φ H φ1 H1) (h : Nxt K φ H S' d Q) : Nxt K φ1 H1 S' d Q := fun φ' v H' e' => h φ' v H' (e.trans e')
theorem NxtL.of {k : Nat} {ds : List D} (e : Ex φ H φ1 H1) (h : NxtL K φ H S' k ds Q) : NxtL K φ1 H1 S' k ds Q := fun φ' H' a vs e' hs rr lk => h φ' H' a vs (e.trans e') hs rr (by
  match k, lk with
  | 0, lk => exact lk
  | 1, lk => exact lk
  | n + 2, lk => exact ⟨lk.1, lk.2.1, e.live a lk.2.2⟩)
theorem Nxt.mk (h : ∀ φ' v H', Ex φ H φ' H' → HS K φ' H' S' → Rep K φ' H' d v → Q v H') : Nxt K φ H S' d Q := h

/-! ### small ones -/
theorem v_lit {v : V} {t : TE} (ht : ∀ σ H Q, Q v H → t σ H Q) (h : ∀ φ H, Rep K φ H d v) : ∀ σ H Q, tEv K (fun _ s => .ok d s) σ H Q → t σ H Q := fun σ H Q ⟨φ, r, S, d', S', hv, hs, e, q⟩ => by
  cases e
  exact ht σ H Q (q.same hs (h φ H))
theorem v_var {i : Nat} : ∀ σ H Q, tEv K (fun r s => Res.opt s (look r i)) σ H Q → tVar i σ H Q := fun σ H Q ⟨φ, r, S, d, S', hv, hs, e, q⟩ => by
  obtain ⟨e1, rfl⟩ := opt_ok e
  obtain ⟨v, h1, h2⟩ := hv.look e1
  exact ⟨v, h1, q.same hs h2⟩
/-- two in a row -/
theorem v_two {R : V → V → Hp → Prop} {ea eb : Env → Store → Res D} {σ : L2.St} {H : Hp} {α : Type} {f : D → D → Store → Res α} {z : α} {S' : Store} (hv : VS K φ H r σ) (hs : HS K φ H S)
    (e : ((ea r S).bind fun x s1 => (eb r s1).bind fun y s2 => f x y s2) = .ok z S')
    (h : ∀ φ2 H2 S2 x y d e', Ex φ H φ2 H2 → HS K φ2 H2 S2 → VS K φ2 H2 r σ → Rep K φ2 H2 d x → Rep K φ2 H2 e' y → f d e' S2 = .ok z S' → R x y H2) :
    tEv K ea σ H fun x H1 => tEv K eb σ H1 fun y H2 => R x y H2 := by
  obtain ⟨d, S1, e1, e⟩ := bind_ok e
  obtain ⟨e', S2, e2, e3⟩ := bind_ok e
  refine ⟨φ, r, S, d, S1, hv, hs, e1, fun φ1 x H1 x1 hs1 r1 => ?_⟩
  refine ⟨φ1, r, S1, e', S2, hv.ext hs x1, hs1, e2, fun φ2 y H2 x2 hs2 r2 => ?_⟩
  exact h φ2 H2 S2 x y d e' (x1.trans x2) hs2 ((hv.ext hs x1).ext hs1 x2) (Rep.ext hs1 x2 _ _ r1) r2 e3
variable {a b : Expr} {ea eb : Env → Store → Res D} {pos : Pos}
theorem v_op {p : Operator} {o : Op} (hp : opOf p = some o) (ha : PE X a (tEv X.K ea)) (hb : PE X b (tEv X.K eb)) :
    PE X (.BinOp a p b pos) (tEv X.K fun r s => (ea r s).bind fun x s1 => (eb r s1).bind fun y s2 => match opD s2 o x y with
      | some (z, s3) => .ok z s3
      | none => .bad) :=
  (pe_op (op_sim hp) ha hb).imp fun σ H Q ⟨φ, r, S, z, S', hv, hs, e, q⟩ => v_two hv hs e fun φ2 H2 S2 x y d e' x2 hs2 _ r1 r2 e3 => by
    split at e3
    · next z' s3 h1 =>
      cases e3
      exact ⟨φ2, S2, d, e', _, _, hs2, r1, r2, h1, q.of x2⟩
    · cases e3
theorem notSet_mark {op : CmpOp} (h : isSet b = false) : behindInMarks op b = false := by
  cases b <;> first | rfl | (simp [isSet] at h)
theorem v_cp (R : Rm X) (c : CmpOp) (hset : isSet b = false) (ha : PE X a (tEv X.K ea)) (hb : PE X b (tEv X.K eb)) :
    PE X (.Compare a [c] [b] pos) (tEv X.K fun r s => (ea r s).bind fun x s1 => (eb r s1).bind fun y s2 => Res.opt s2 (cpD s2 (cpOf c) x y)) :=
  (pe_cmpR (cp_sim R c) ha hb (notSet_mark hset)).imp fun σ H Q ⟨φ, r, S, z, S', hv, hs, e, q⟩ => v_two hv hs e fun φ2 H2 S2 x y d e' x2 hs2 _ r1 r2 e3 => by
    obtain ⟨h1, rfl⟩ := opt_ok e3
    exact ⟨φ2, _, d, e', _, hs2, r1, r2, h1, fun v hr => (q.of x2).same hs2 hr⟩
theorem v_cpT (R : Rm X) (c : CmpOp) (hset : isSet b = false) (ha : PE X a (tEv X.K ea)) (hb : PE X b (tEv X.K eb)) :
    PT X (.Compare a [c] [b] pos) (tTv X.K fun r s => (ea r s).bind fun x s1 => (eb r s1).bind fun y s2 => Res.opt s2 ((cpD s2 (cpOf c) x y).bind asBool)) :=
  (pt_cmpR (cp_sim R c) ha hb (notSet_mark hset)).imp fun σ H Q ⟨φ, r, S, z, S', hv, hs, e, q⟩ => v_two hv hs e fun φ2 H2 S2 x y d e' x2 hs2 _ r1 r2 e3 => by
    obtain ⟨h1, rfl⟩ := opt_ok e3
    obtain ⟨w, h2, h3⟩ := Option.bind_eq_some_iff.mp h1
    refine ⟨φ2, _, d, e', w, hs2, r1, r2, h2, fun v hr => ?_⟩
    cases w <;> simp only [asBool] at h3 <;> cases h3
    simp only [Rep] at hr
    exact ⟨_, hr, q φ2 H2 x2 hs2⟩
theorem pix_of (h : isSlice b = false) : PlainIx b := by
  cases b <;> first | (intro _ _; rfl) | (simp [isSlice] at h)
theorem v_ix (R : Rm X) (hsl : isSlice b = false) (ha : PE X a (tEv X.K ea)) (hb : PE X b (tEv X.K eb)) :
    PE X (.Subscript a b pos) (tEv X.K fun r s => (ea r s).bind fun x s1 => (eb r s1).bind fun y s2 => Res.opt s2 (ixD s2 x y)) :=
  (pe_ix (ix_sim R) ha hb (pix_of hsl)).imp fun σ H Q ⟨φ, r, S, z, S', hv, hs, e, q⟩ => v_two hv hs e fun φ2 H2 S2 x y d e' x2 hs2 _ r1 r2 e3 => by
    obtain ⟨h1, rfl⟩ := opt_ok e3
    exact ⟨φ2, _, d, e', _, hs2, r1, r2, h1, fun v hr => (q.of x2).same hs2 hr⟩
theorem v_not (ha : PE X a (tEv X.K ea)) : PE X (.UnaryOp .Not a pos) (tEv X.K fun r s => (ea r s).bind fun x s1 => Res.opt s1 ((truthD s1 x).map noB)) :=
  (pe_notT ha).imp fun σ H Q ⟨φ, r, S, z, S', hv, hs, e, q⟩ => by
    obtain ⟨d, S1, e1, e⟩ := bind_ok e
    obtain ⟨e2, rfl⟩ := opt_ok e
    obtain ⟨k, h1, rfl⟩ := map_some e2
    exact ⟨φ, r, S, d, _, hv, hs, e1, fun φ1 x H1 x1 hs1 r1 => ⟨k, truth_v hs1 r1 h1, (q.of x1).same hs1 (by simp only [noB, Rep])⟩⟩
theorem v_neg (ha : PE X a (tEv X.K ea)) : PE X (.UnaryOp .USub a pos) (tEv X.K fun r s => (ea r s).bind fun x s1 => match x with
    | .int i => .ok (.int (-i)) s1
    | _ => .bad) :=
  (pe_un un_neg ha).imp fun σ H Q ⟨φ, r, S, z, S', hv, hs, e, q⟩ => by
    obtain ⟨d, S1, e1, e⟩ := bind_ok e
    cases d <;> simp only at e <;> cases e
    exact ⟨φ, r, S, _, _, hv, hs, e1, fun φ1 x H1 x1 hs1 r1 => ⟨_, by simpa only [Rep] using r1, (q.of x1).same hs1 (by simp only [Rep])⟩⟩
/-- truth of an expression of any kind -/
theorem v_truth (ha : PE X a (tEv X.K ea)) (he : ∀ whole, isTrue a X.env whole = (do let v ← whole; standAt a.pos; holding [v] (truthy v))) :
    PT X a (tTv X.K fun r s => (ea r s).bind fun d s1 => Res.opt s1 (truthD s1 d)) :=
  (pt_truth ha he).imp fun σ H Q ⟨φ, r, S, b, S', hv, hs, e, q⟩ => by
    obtain ⟨d, S1, e1, e⟩ := bind_ok e
    obtain ⟨e2, rfl⟩ := opt_ok e
    exact ⟨φ, r, S, d, _, hv, hs, e1, fun φ1 x H1 x1 hs1 r1 => ⟨b, truth_v hs1 r1 e2, q φ1 H1 x1 hs1⟩⟩
variable {ta tb : Env → Store → Res Bool}
theorem v_notT (ha : PT X a (tTv X.K ta)) : PT X (.UnaryOp .Not a pos) (tTv X.K fun r s => (ta r s).bind fun x s1 => .ok (!x) s1) :=
  (pt_not ha).imp fun σ H Q ⟨φ, r, S, b, S', hv, hs, e, q⟩ => by
    obtain ⟨d, S1, e1, e⟩ := bind_ok e
    cases e
    exact ⟨φ, r, S, d, _, hv, hs, e1, fun φ1 H1 x1 hs1 => q φ1 H1 x1 hs1⟩
variable {rest : List Expr}
theorem v_and (ha : PE X a (tEv X.K ea)) (hb : PE X (.BoolOp .And (b :: rest) pos) (tEv X.K eb)) : PE X (.BoolOp .And (a :: b :: rest) pos) (tEv X.K fun r s => (ea r s).bind fun x s1 => match x with
    | .bl true => eb r s1
    | .bl false => .ok (.bl false) s1
    | _ => .bad) :=
  (pe_and ha hb).imp fun σ H Q ⟨φ, r, S, z, S', hv, hs, e, q⟩ => by
    obtain ⟨d, S1, e1, e⟩ := bind_ok e
    refine ⟨φ, r, S, d, _, hv, hs, e1, fun φ1 x H1 x1 hs1 r1 => ?_⟩
    cases d with
    | bl c =>
      simp only [Rep] at r1
      cases c with
      | true => exact ⟨true, r1, by rw [if_pos rfl]; exact ⟨φ1, r, S1, z, S', hv.ext hs x1, hs1, e, q.of x1⟩⟩
      | false =>
        cases e
        exact ⟨false, r1, by rw [if_neg Bool.false_ne_true]; exact (q.of x1).same hs1 (by simp only [Rep])⟩
    | _ => cases e
theorem v_or (ha : PE X a (tEv X.K ea)) (hb : PE X (.BoolOp .Or (b :: rest) pos) (tEv X.K eb)) : PE X (.BoolOp .Or (a :: b :: rest) pos) (tEv X.K fun r s => (ea r s).bind fun x s1 => match x with
    | .bl false => eb r s1
    | .bl true => .ok (.bl true) s1
    | _ => .bad) :=
  (pe_or ha hb).imp fun σ H Q ⟨φ, r, S, z, S', hv, hs, e, q⟩ => by
    obtain ⟨d, S1, e1, e⟩ := bind_ok e
    refine ⟨φ, r, S, d, _, hv, hs, e1, fun φ1 x H1 x1 hs1 r1 => ?_⟩
    cases d with
    | bl c =>
      simp only [Rep] at r1
      cases c with
      | false => exact ⟨false, r1, by rw [if_neg Bool.false_ne_true]; exact ⟨φ1, r, S1, z, S', hv.ext hs x1, hs1, e, q.of x1⟩⟩
      | true =>
        cases e
        exact ⟨true, r1, by rw [if_pos rfl]; exact (q.of x1).same hs1 (by simp only [Rep])⟩
    | _ => cases e
theorem v_andT (ha : PT X a (tTv X.K ta)) (hb : PW X (.BoolOp .And (b :: rest) pos) (tTv X.K tb)) : PW X (.BoolOp .And (a :: b :: rest) pos) (tTv X.K fun r s => (ta r s).bind fun x s1 => if x then tb r s1 else .ok false s1) :=
  (pw_and ha hb).imp fun σ H Q ⟨φ, r, S, z, S', hv, hs, e, q⟩ => by
    obtain ⟨d, S1, e1, e⟩ := bind_ok e
    refine ⟨φ, r, S, d, _, hv, hs, e1, fun φ1 H1 x1 hs1 => ?_⟩
    cases d with
    | true => rw [if_pos rfl]; exact ⟨φ1, r, S1, z, S', hv.ext hs x1, hs1, e, fun φ2 H2 x2 => q φ2 H2 (x1.trans x2)⟩
    | false =>
      cases e
      rw [if_neg Bool.false_ne_true]; exact q φ1 H1 x1 hs1
theorem v_orT (ha : PT X a (tTv X.K ta)) (hb : PW X (.BoolOp .Or (b :: rest) pos) (tTv X.K tb)) : PW X (.BoolOp .Or (a :: b :: rest) pos) (tTv X.K fun r s => (ta r s).bind fun x s1 => if x then .ok true s1 else tb r s1) :=
  (pw_or ha hb).imp fun σ H Q ⟨φ, r, S, z, S', hv, hs, e, q⟩ => by
    obtain ⟨d, S1, e1, e⟩ := bind_ok e
    refine ⟨φ, r, S, d, _, hv, hs, e1, fun φ1 H1 x1 hs1 => ?_⟩
    cases d with
    | false => rw [if_neg Bool.false_ne_true]; exact ⟨φ1, r, S1, z, S', hv.ext hs x1, hs1, e, fun φ2 H2 x2 => q φ2 H2 (x1.trans x2)⟩
    | true =>
      cases e
      rw [if_pos rfl]; exact q φ1 H1 x1 hs1
theorem v_ite {c : Expr} (hc : PT X c (tTv X.K ta)) (ha : PE X a (tEv X.K ea)) (hb : PE X b (tEv X.K eb)) : PE X (.IfExp c a b pos) (tEv X.K fun r s => (ta r s).bind fun k s1 => if k then ea r s1 else eb r s1) :=
  (pe_ifExp hc ha hb).imp fun σ H Q ⟨φ, r, S, z, S', hv, hs, e, q⟩ => by
    obtain ⟨d, S1, e1, e⟩ := bind_ok e
    refine ⟨φ, r, S, d, _, hv, hs, e1, fun φ1 H1 x1 hs1 => ?_⟩
    cases d with
    | true => rw [if_pos rfl]; exact ⟨φ1, r, S1, z, S', hv.ext hs x1, hs1, e, q.of x1⟩
    | false => rw [if_neg Bool.false_ne_true]; exact ⟨φ1, r, S1, z, S', hv.ext hs x1, hs1, e, q.of x1⟩
theorem notSets_mark {o p : CmpOp} {c : Expr} (h : isSet b = false) (h' : isSet c = false) : lastMarks [o, p] [b, c] = false := by
  show behindInMarks p c = false
  exact notSet_mark h'
theorem v_chain (R : Rm X) (o p : CmpOp) {c : Expr} {ec : Env → Store → Res D} (h1 : isSet b = false) (h2 : isSet c = false) (ha : PE X a (tEv X.K ea)) (hb : PE X b (tEv X.K eb)) (hc : PE X c (tEv X.K ec)) :
    PE X (.Compare a [o, p] [b, c] pos) (tEv X.K fun r s => (ea r s).bind fun x s1 => (eb r s1).bind fun y s2 => match cpD s2 (cpOf o) x y with
      | some (.bl true) => (ec r s2).bind fun z s3 => Res.opt s3 (cpD s3 (cpOf p) y z)
      | some (.bl false) => .ok (.bl false) s2
      | _ => .bad) :=
  (pe_chain (cp_sim R o) (cp_sim R p) ha hb hc (notSets_mark h1 h2)).imp fun σ H Q ⟨φ, r, S, z, S', hv, hs, e, q⟩ => v_two (R := fun x y H2 => rCp X.K (cpOf o) x y H2 _) hv hs e fun φ2 H2 S2 x y d e' x2 hs2 hv2 r1 r2 e3 => by
    split at e3
    · next g1 =>
      refine ⟨φ2, _, d, e', _, hs2, r1, r2, g1, fun v hr => ⟨true, by simpa only [Rep] using hr, ?_⟩⟩
      rw [if_pos rfl]
      obtain ⟨f, S3, e4, e5⟩ := bind_ok e3
      obtain ⟨g2, rfl⟩ := opt_ok e5
      refine ⟨φ2, r, S2, f, _, hv2, hs2, e4, fun φ3 w H3 x3 hs3 r3 => ?_⟩
      exact ⟨φ3, _, e', f, z, hs3, Rep.ext hs2 x3 _ _ r2, r3, g2, fun v hr => (q.of (x2.trans x3)).same hs3 hr⟩
    · next g1 =>
      cases e3
      refine ⟨φ2, _, d, e', _, hs2, r1, r2, g1, fun v hr => ⟨false, by simpa only [Rep] using hr, ?_⟩⟩
      rw [if_neg Bool.false_ne_true]
      exact (q.of x2).same hs2 (by simp only [Rep])
    · cases e3
theorem v_chainT (R : Rm X) (o p : CmpOp) {c : Expr} {ec : Env → Store → Res D} (h1 : isSet b = false) (h2 : isSet c = false) (ha : PE X a (tEv X.K ea)) (hb : PE X b (tEv X.K eb)) (hc : PE X c (tEv X.K ec)) :
    PT X (.Compare a [o, p] [b, c] pos) (tTv X.K fun r s => (ea r s).bind fun x s1 => (eb r s1).bind fun y s2 => match cpD s2 (cpOf o) x y with
      | some (.bl true) => (ec r s2).bind fun z s3 => Res.opt s3 ((cpD s3 (cpOf p) y z).bind asBool)
      | some (.bl false) => .ok false s2
      | _ => .bad) :=
  (pt_chain (cp_sim R o) (cp_sim R p) ha hb hc (notSets_mark h1 h2)).imp fun σ H Q ⟨φ, r, S, z, S', hv, hs, e, q⟩ => v_two (R := fun x y H2 => rCp X.K (cpOf o) x y H2 _) hv hs e fun φ2 H2 S2 x y d e' x2 hs2 hv2 r1 r2 e3 => by
    split at e3
    · next g1 =>
      refine ⟨φ2, _, d, e', _, hs2, r1, r2, g1, fun v hr => ⟨true, by simpa only [Rep] using hr, ?_⟩⟩
      rw [if_pos rfl]
      obtain ⟨f, S3, e4, e5⟩ := bind_ok e3
      obtain ⟨g2, rfl⟩ := opt_ok e5
      obtain ⟨w', g3, g4⟩ := Option.bind_eq_some_iff.mp g2
      refine ⟨φ2, r, S2, f, _, hv2, hs2, e4, fun φ3 w H3 x3 hs3 r3 => ?_⟩
      refine ⟨φ3, _, e', f, w', hs3, Rep.ext hs2 x3 _ _ r2, r3, g3, fun v hr => ?_⟩
      cases w' <;> simp only [asBool] at g4 <;> cases g4
      simp only [Rep] at hr
      exact ⟨_, hr, q φ3 H3 (x2.trans x3) hs3⟩
    · next g1 =>
      cases e3
      refine ⟨φ2, _, d, e', _, hs2, r1, r2, g1, fun v hr => ⟨false, by simpa only [Rep] using hr, ?_⟩⟩
      rw [if_neg Bool.false_ne_true]
      exact ⟨false, rfl, q φ2 H2 x2 hs2⟩
    · cases e3
end
end Wb

/-! W10: readings by plain data: arguments, calls, lists. -/
namespace Wb
open PySem PySem.Spec PyProof.Rows L2
theorem star_cons {e : Expr} {es : List Expr} {env : PySem.Env} (h : isStar e = false) : starEach (e :: es) env = (false, eval e env) :: starEach es env := by
  cases e <;> first | rfl | (simp [isStar] at h)
theorem star_none {pos : Pos} {env : PySem.Env} : ∀ {es : List Expr}, es.any isStar = false → (backTo pos (starEach es env)).any (·.1) = false
  | [], _ => rfl
  | e :: es, h => by
    simp only [List.any_cons, Bool.or_eq_false_iff] at h
    rw [star_cons h.1]
    have ih := star_none (pos := pos) (env := env) h.2
    unfold backTo at ih ⊢
    simpa using ih
section
variable {X : Cx} {K : PySem.W.Frag} {φ φ1 φ' : List Addr} {H H1 H' : Hp} {S S1 S' : Store} {d : D} {Q : VK} {r : Env} {σ : L2.St} {a b : Expr} {ea eb : Env → Store → Res D} {pos p : Pos} {k : Nat}
theorem v_argnil : PA X [] (tAv X.K fun _ s => .ok [] s) := pa_nil.imp fun σ H Q ⟨φ, r, S, ds, S', hv, hs, e, q⟩ => by
  cases e
  exact q φ [] H Ex.rfl' hs (by simp only [Reps])
theorem v_argcons {es : List Expr} {eas : Env → Store → Res (List D)} (hst : isStar a = false) (ha : PE X a (tEv X.K ea)) (hr : PA X es (tAv X.K eas)) :
    PA X (a :: es) (tAv X.K fun r s => (ea r s).bind fun x s1 => (eas r s1).bind fun xs s2 => .ok (x :: xs) s2) :=
  (pa_cons ha hr (star_cons hst)).imp fun σ H Q ⟨φ, r, S, ds, S', hv, hs, e, q⟩ => by
    obtain ⟨d, S1, e1, e⟩ := bind_ok e
    obtain ⟨ds', S2, e2, e⟩ := bind_ok e
    cases e
    refine ⟨φ, r, S, d, S1, hv, hs, e1, fun φ1 x H1 x1 hs1 r1 => ⟨φ1, r, S1, ds', _, hv.ext hs x1, hs1, e2, fun φ2 vs H2 x2 hs2 r2 => ?_⟩⟩
    refine q φ2 (x :: vs) H2 (x1.trans x2) hs2 ?_
    simp only [Reps]
    exact ⟨x, vs, rfl, Rep.ext hs1 x2 _ _ r1, r2⟩
variable {eas : Env → Store → Res (List D)}
theorem v_tup {es : List Expr} {j : Nat} (h : PA X es (tAv X.K eas)) : PE X (.Tuple es j pos) (tEv X.K fun r s => (eas r s).bind fun ds s1 => if small ds.length then .ok (.tup ds) s1 else .bad) :=
  (pe_tup h).imp fun σ H Q ⟨φ, r, S, ds, S', hv, hs, e, q⟩ => by
    obtain ⟨ds, S1, e1, e⟩ := bind_ok e
    split at e
    · next hz =>
      cases e
      exact ⟨φ, r, S, ds, _, hv, hs, e1, fun φ1 vs H1 x1 hs1 r1 => ⟨by rw [r1.len]; exact sz_top (Nat.le_succ_of_le (small_le hz)), fun p hp => (q.of x1).tup hs1 r1 hp⟩⟩
    · cases e
theorem v_disp {es : List Expr} (h : PA X es (tAv X.K eas)) : PE X (.List es pos) (tLv X.K 2 fun r s => (eas r s).bind fun ds s1 => if small ds.length then .ok ds s1 else .bad) :=
  (pe_lst h).imp fun σ H Q ⟨φ, r, S, ds, S', hv, hs, e, q⟩ => by
    obtain ⟨ds, S1, e1, e⟩ := bind_ok e
    split at e
    · next hz =>
      cases e
      exact ⟨φ, r, S, ds, _, hv, hs, e1, fun φ1 vs H1 x1 hs1 r1 => ⟨by rw [r1.len]; exact sz_top (Nat.le_succ_of_le (small_le hz)), fun p hp => (q.of x1).new hs1 r1 hp⟩⟩
    · cases e
/-- a new list gets a name of the store -/
theorem v_newL {el : Env → Store → Res (List D)} (h : PE X a (tLv X.K 2 el)) : PE X a (tEv X.K fun r s => (el r s).bind fun ds s1 => alloc (.lst ds) s1) :=
  h.imp fun σ H Q ⟨φ, r, S, d, S', hv, hs, e, q⟩ => by
    obtain ⟨ds, S1, e1, e⟩ := bind_ok e
    unfold alloc at e
    cases e
    refine ⟨φ, r, S, ds, S1, hv, hs, e1, fun φ1 H1 a vs x1 hs1 r1 lk => ?_⟩
    obtain ⟨l1, l2, l3⟩ := lk
    refine q (φ1 ++ [a]) (.ref a) H1 (x1.reg l3) (hs1.reg l2 ⟨vs, l1, r1⟩) ?_
    simp only [Rep]
    exact ⟨a, rfl, by rw [← hs1.len]; simp⟩
theorem v_of (h : PE X a (tEv X.K ea)) : PE X a (tLv X.K 0 fun r s => (ea r s).bind fun x s1 => Res.opt s1 (seqAt s1 x)) :=
  h.imp fun σ H Q ⟨φ, r, S, ds, S', hv, hs, e, q⟩ => by
    obtain ⟨d, S1, e1, e⟩ := bind_ok e
    obtain ⟨e2, rfl⟩ := opt_ok e
    refine ⟨φ, r, S, d, _, hv, hs, e1, fun φ1 x H1 x1 hs1 r1 => ?_⟩
    cases d <;> simp only [seqAt] at e2 <;> try (cases e2; done)
    case tup xs =>
      cases e2
      simp only [Rep] at r1
      obtain ⟨a, vs, rfl, ha, hr⟩ := r1
      exact q φ1 H1 a vs x1 hs1 hr (.inr (.inr ha))
    case fix xs =>
      cases e2
      simp only [Rep] at r1
      obtain ⟨a, vs, rfl, ha, hr⟩ := r1
      exact q φ1 H1 a vs x1 hs1 hr (.inl ha)
    case ref n =>
      simp only [Rep] at r1
      obtain ⟨a, rfl, ha⟩ := r1
      obtain ⟨o, ho1, ro⟩ := hs1.sget ha
      rw [ho1] at e2
      cases o with
      | lst ys =>
        cases e2
        obtain ⟨vs, hv', hr⟩ := ro
        exact q φ1 H1 a vs x1 hs1 hr (.inr (.inl hv'))
      | dik _ => cases e2
      | dit _ => cases e2
theorem v_ofl (h : PE X a (tEv X.K ea)) : PE X a (tLv X.K 1 fun r s => (ea r s).bind fun x s1 => Res.opt s1 (lstAt s1 x)) :=
  h.imp fun σ H Q ⟨φ, r, S, ds, S', hv, hs, e, q⟩ => by
    obtain ⟨d, S1, e1, e⟩ := bind_ok e
    obtain ⟨e2, rfl⟩ := opt_ok e
    refine ⟨φ, r, S, d, _, hv, hs, e1, fun φ1 x H1 x1 hs1 r1 => ?_⟩
    cases d <;> simp only [lstAt] at e2 <;> try (cases e2; done)
    next n =>
    simp only [Rep] at r1
    obtain ⟨a, rfl, ha⟩ := r1
    obtain ⟨o, ho1, ro⟩ := hs1.sget ha
    rw [ho1] at e2
    cases o with
    | lst ys =>
      cases e2
      obtain ⟨vs, hv', hr⟩ := ro
      exact q φ1 H1 a vs x1 hs1 hr ⟨hv', n, ha, ho1⟩
    | dik _ => cases e2
    | dit _ => cases e2
variable {la lb : Env → Store → Res (List D)} {ka kb : Nat}
theorem v_isi {f : Str} {t : Str} {bk : B} {pt : Pos} (hg : Gl X "isinstance") (hm : X.mg "isinstance" = none) (hgt : Gl X t) (hmt : X.mg t = none) (hb : kindB t = some bk) (hst : isStar a = false) (ha : PE X a (tEv X.K ea)) :
    PE X (.Call (.Name "isinstance" p) [a, .Name t pt] [] pos) (tEv X.K fun r s => (ea r s).bind fun x s1 => Res.opt s1 ((isiD s1 bk x).map .bl)) := by
  have hv : bootBuiltins t = some (.type (tyN bk)) ∧ t ≠ "__name__" ∧ (t == ("__debug__" : Str)) = false := by
    unfold kindB at hb
    split at hb
    · next e => subst e; cases hb; exact ⟨by decide +kernel, by decide, by decide⟩
    · split at hb
      · next e => subst e; cases hb; exact ⟨by decide +kernel, by decide, by decide⟩
      · split at hb
        · next e => subst e; cases hb; exact ⟨by decide +kernel, by decide, by decide⟩
        · split at hb
          · next e => subst e; cases hb; exact ⟨by decide +kernel, by decide, by decide⟩
          · split at hb
            · next e => subst e; cases hb; exact ⟨by decide +kernel, by decide, by decide⟩
            · cases hb
  have ht : PE X (.Name t pt) (tC (.ty (tyN bk))) := pe_bltn hgt hmt hv.1 rfl hv.2.1 hv.2.2
  exact (pe_callB isi_sim hg hm (by decide +kernel) (pa_cons ha (pa_cons ht pa_nil) (star_cons hst)) (by decide) (by decide) (star_cons hst) (star_none (es := [.Name t pt]) rfl)).imp fun σ H Q ⟨φ, r, S, z, S', hv, hs, e, q⟩ => by
    obtain ⟨d, S1, e1, e⟩ := bind_ok e
    obtain ⟨e2, rfl⟩ := opt_ok e
    obtain ⟨c, h1, rfl⟩ := map_some e2
    exact ⟨φ, r, S, d, _, hv, hs, e1, fun φ1 x H1 x1 hs1 r1 => ⟨φ1, _, d, x, bk, c, rfl, hs1, r1, h1, (q.of x1).same hs1 (by simp only [Rep])⟩⟩
/-- a built-in of one list -/
theorem v_con (R : Rm X) {c : C} {f : Str} (hf : c1 f = some c ∨ (f = ("len" : Str) ∧ c = .len)) (hc : c = .tup ∨ c = .len ∨ (1 ≤ k ∧ (c = .all ∨ c = .any ∨ c = .sum))) (hg : Gl X f) (hm : X.mg f = none) (hst : isStar a = false) (ha : PE X a (tLv X.K k la)) :
    PE X (.Call (.Name f p) [a] [] pos) (tEv X.K fun r s => (la r s).bind fun ds s1 => Res.opt s1 (conD c ds)) := by
  have key : ∀ {σ H Q}, tEv X.K (fun r s => (la r s).bind fun ds s1 => Res.opt s1 (conD c ds)) σ H Q → tCB (rCon X.K c k) (tCons (tLv X.K k la) tNil) σ H Q := fun {σ H Q} ⟨φ, r, S, z, S', hv, hs, e, q⟩ => by
    obtain ⟨ds, S1, e1, e⟩ := bind_ok e
    obtain ⟨e2, rfl⟩ := opt_ok e
    exact ⟨φ, r, S, ds, _, hv, hs, e1, fun φ1 H1 a vs x1 hs1 r1 lk => ⟨φ1, _, ds, vs, a, z, _, rfl, hs1, r1, lk, e2, q.of x1⟩⟩
  have fc : ∀ {n : String}, f = (n : Str) → cName c = some n → bootBuiltins (n : Str) = some (.builtin n) → 1 ≤ k → (n : Str) ≠ "__name__" → ((n : Str) == ("__debug__" : Str)) = false → PE X (.Call (.Name f p) [a] [] pos) (tEv X.K fun r s => (la r s).bind fun ds s1 => Res.opt s1 (conD c ds)) := fun {n} e1 e2 e3 e4 e5 e6 => by
    subst e1
    exact (pe_callB (con_sim R e2 e4) hg hm e3 (pa_cons ha pa_nil (star_cons hst)) e5 e6 (star_cons hst) rfl).imp fun σ H Q q => key q
  rcases hf with hf | ⟨rfl, rfl⟩
  · unfold c1 at hf
    split at hf
    · next e =>
      subst e; cases hf
      exact (pe_callTy (tup_sim R) hg hm boot_tuple (pa_cons ha pa_nil (star_cons hst)) (by decide) (by decide) (star_cons hst) rfl).imp fun σ H Q q => key q
    · split at hf
      · next e => subst e; cases hf; exact fc rfl rfl (by decide +kernel) (by rcases hc with h | h | h <;> first | (cases h; done) | exact h.1) (by decide) (by decide)
      · split at hf
        · next e => subst e; cases hf; exact fc rfl rfl (by decide +kernel) (by rcases hc with h | h | h <;> first | (cases h; done) | exact h.1) (by decide) (by decide)
        · split at hf
          · next e => subst e; cases hf; exact fc rfl rfl (by decide +kernel) (by rcases hc with h | h | h <;> first | (cases h; done) | exact h.1) (by decide) (by decide)
          · cases hf
  · exact (pe_callB (lenL_sim R) hg hm boot_len (pa_cons ha pa_nil (star_cons hst)) (by decide) (by decide) (star_cons hst) rfl).imp fun σ H Q q => key q
/-- a built-in of one value -/
theorem v_blt (R : Rm X) {bn : B} {f : Str} {u : Value} (hb : bName bn = some u) (hg : Gl X f) (hm : X.mg f = none) (hv : bootBuiltins f = some u) (hn : f ≠ "__name__") (hdb : (f == ("__debug__" : Str)) = false) (hst : isStar a = false) (ha : PE X a (tEv X.K ea)) :
    PE X (.Call (.Name f p) [a] [] pos) (tEv X.K fun r s => (((ea r s).bind fun x s1 => (Res.ok [] s1).bind fun xs s2 => .ok (x :: xs) s2)).bind fun ds s1 => Res.opt s1 (bltD s1 bn ds)) := by
  have key : ∀ {σ H Q}, tEv X.K (fun r s => (((ea r s).bind fun x s1 => (Res.ok [] s1).bind fun xs s2 => .ok (x :: xs) s2)).bind fun ds s1 => Res.opt s1 (bltD s1 bn ds)) σ H Q → tCB (rBlt X.K bn) (tCons (tEv X.K ea) tNil) σ H Q := fun {σ H Q} ⟨φ, r, S, z, S', hv, hs, e, q⟩ => by
    obtain ⟨ds, S1, e1, e⟩ := bind_ok e
    obtain ⟨d, S0, e0, e1⟩ := bind_ok e1
    simp only [Res.bind_ok] at e1
    cases e1
    obtain ⟨e2, rfl⟩ := opt_ok e
    exact ⟨φ, r, S, d, _, hv, hs, e0, fun φ1 x H1 x1 hs1 r1 => ⟨φ1, _, [d], z, hs1, Reps.one r1, e2, fun v hr => (q.of x1).same hs1 hr⟩⟩
  have hsim := blt_sim R hb
  cases bn <;> simp only [bName] at hb <;> cases hb
  all_goals
    first
      | exact (pe_callB hsim hg hm hv (pa_cons ha pa_nil (star_cons hst)) hn hdb (star_cons hst) rfl).imp fun σ H Q q => key q
      | exact (pe_callTy hsim hg hm hv (pa_cons ha pa_nil (star_cons hst)) hn hdb (star_cons hst) rfl).imp fun σ H Q q => key q
/-- list(xs), sorted(xs) -/
theorem v_list (R : Rm X) (hg : Gl X "list") (hm : X.mg "list" = none) (hst : isStar a = false) (ha : PE X a (tLv X.K k la)) : PE X (.Call (.Name "list" p) [a] [] pos) (tLv X.K 2 la) :=
  (pe_callTy (list_sim R) hg hm boot_list (pa_cons ha pa_nil (star_cons hst)) (by decide) (by decide) (star_cons hst) rfl).imp fun σ H Q ⟨φ, r, S, ds, S', hv, hs, e, q⟩ =>
    ⟨φ, r, S, ds, S', hv, hs, e, fun φ1 H1 a vs x1 hs1 r1 lk => ⟨φ1, _, ds, ds, vs, a, _, rfl, hs1, r1, lk, rfl, q.of x1⟩⟩
theorem v_sorted (R : Rm X) (hk : 1 ≤ k) (hg : Gl X "sorted") (hm : X.mg "sorted" = none) (hst : isStar a = false) (ha : PE X a (tLv X.K k la)) : PE X (.Call (.Name "sorted" p) [a] [] pos) (tLv X.K 2 fun r s => (la r s).bind fun ds s1 => Res.opt s1 (sortD ds)) :=
  (pe_callB (sorted_sim R hk) hg hm boot_sorted (pa_cons ha pa_nil (star_cons hst)) (by decide) (by decide) (star_cons hst) rfl).imp fun σ H Q ⟨φ, r, S, es, S', hv, hs, e, q⟩ => by
    obtain ⟨ds, S1, e1, e⟩ := bind_ok e
    obtain ⟨e2, rfl⟩ := opt_ok e
    exact ⟨φ, r, S, ds, _, hv, hs, e1, fun φ1 H1 a vs x1 hs1 r1 lk => ⟨φ1, _, ds, es, vs, a, _, rfl, hs1, r1, lk, e2, q.of x1⟩⟩
/-- the first list behind the making of the second -/
theorem LK.held {l : Ls} {H0 : Hp} {a : Addr} {vs : List V} {ds : List D} (h : heldL l S S1 = true) (h1 : 1 ≤ l.kd) (lk : LK K l.kd S ds H0 φ H a vs) (e : Ex φ H φ' H') (hs : HS K φ H S) (hs' : HS K φ' H' S1) (hr : Reps K φ H ds vs) : ∃ vs', H' a = some (.lst vs') ∧ Reps K φ' H' ds vs' := by
  unfold heldL at h
  simp only [Bool.or_eq_true, decide_eq_true_eq] at h
  rcases h with h | h
  · rw [h] at lk
    exact ⟨vs, e.keep a _ lk.1 lk.2.1, Reps.ext hs e _ _ hr⟩
  · subst h
    by_cases h2 : l.kd = 1
    · rw [h2] at lk
      obtain ⟨_, n, e1, e2⟩ := lk
      obtain ⟨q, rfl, _⟩ := e.pre
      have e3 : (φ ++ q)[n]? = some a := by rw [List.getElem?_append_left (List.getElem?_eq_some_iff.mp e1).1]; exact e1
      exact hs'.ob n _ a e2 e3
    · have h3 : l.kd = 2 := by
        cases l <;> simp [Ls.kd] at h1 h2 ⊢
      rw [h3] at lk
      exact ⟨vs, e.keep a _ lk.1 lk.2.1, Reps.ext hs e _ _ hr⟩
end
end Wb

/-! W11: readings by plain data: lists put together, slices, ranges, displays, methods. -/
namespace Wb
open PySem PySem.Spec PyProof.Rows L2
section
variable {X : Cx} {K : PySem.W.Frag} {φ φ1 φ' : List Addr} {H H1 H' : Hp} {S S1 S' : Store} {d : D} {Q : VK} {r : Env} {σ : L2.St} {a b : Expr} {ea eb : Env → Store → Res D} {la lb : Env → Store → Res (List D)} {pos p : Pos} {k : Nat} {l m : Ls}
theorem v_cat (hl : 1 ≤ l.kd) (hm : 1 ≤ m.kd) (ha : PE X a (tLv X.K l.kd la)) (hb : PE X b (tLv X.K m.kd lb)) :
    PE X (.BinOp a .Add b pos) (tLv X.K 2 fun r s => (la r s).bind fun x s1 => (lb r s1).bind fun y s2 => if heldL l s1 s2 && small (x.length + y.length) then .ok (x ++ y) s2 else .bad) :=
  (pe_op cat_sim ha hb).imp fun σ H Q ⟨φ, r, S, z, S', hv, hs, e, q⟩ => by
    obtain ⟨ds, S1, e1, e⟩ := bind_ok e
    obtain ⟨es, S2, e2, e⟩ := bind_ok e
    split at e
    · next hz =>
      cases e
      simp only [Bool.and_eq_true] at hz
      refine ⟨φ, r, S, ds, S1, hv, hs, e1, fun φ1 H1 a vs x1 hs1 r1 lk => ⟨φ1, r, S1, es, _, hv.ext hs x1, hs1, e2, fun φ2 H2 b ws x2 hs2 r2 lk2 => ?_⟩⟩
      obtain ⟨vs', h1, h2⟩ := LK.held hz.1 hl lk x2 hs1 hs2 r1
      exact ⟨φ2, _, ds, es, vs', ws, a, b, rfl, rfl, hs2, h2, r2, h1, lk2.lst hm, hz.2, q.of (x1.trans x2)⟩
    · cases e
theorem v_rep (hl : 1 ≤ l.kd) (ha : PE X a (tLv X.K l.kd la)) (hb : PE X b (tEv X.K eb)) :
    PE X (.BinOp a .Mult b pos) (tLv X.K 2 fun r s => (la r s).bind fun x s1 => (eb r s1).bind fun y s2 => match y with
    | .int k => if heldL l s1 s2 && decide (x.length ≤ 1000) && decide (-1000 ≤ k) && decide (k ≤ 1000) then .ok (List.replicate k.toNat x).flatten s2 else .bad
    | _ => .bad) :=
  (pe_op rep_sim ha hb).imp fun σ H Q ⟨φ, r, S, z, S', hv, hs, e, q⟩ => by
    obtain ⟨ds, S1, e1, e⟩ := bind_ok e
    obtain ⟨y, S2, e2, e⟩ := bind_ok e
    cases y <;> simp only at e <;> try (cases e; done)
    split at e
    · next hz =>
      cases e
      simp only [Bool.and_eq_true, decide_eq_true_eq] at hz
      obtain ⟨⟨⟨z1, z2⟩, z3⟩, z4⟩ := hz
      refine ⟨φ, r, S, ds, S1, hv, hs, e1, fun φ1 H1 a vs x1 hs1 r1 lk => ⟨φ1, r, S1, _, _, hv.ext hs x1, hs1, e2, fun φ2 w H2 x2 hs2 r2 => ?_⟩⟩
      obtain ⟨vs', h1, h2⟩ := LK.held z1 hl lk x2 hs1 hs2 r1
      exact ⟨φ2, _, ds, vs', a, _, rfl, by simpa only [Rep] using r2, hs2, h2, h1, z2, z3, z4, q.of (x1.trans x2)⟩
    · cases e
theorem eqL_dp (hs : HS K φ H S) {ds es : List D} {vs ws : List V} {a b : Addr} {k : Bool} (h : eqL S ds es = some k) (ha : H a = some (.lst vs)) (hb : H b = some (.lst ws)) (r1 : Reps K φ H ds vs) (r2 : Reps K φ H es ws) :
    ∃ p q, Dp K H (.ref a) p ∧ Dp K H (.ref b) q ∧ SeqAt.shaped p = true ∧ SeqAt.shaped q = true ∧ PyData.eqv p q = k := by
  unfold eqL at h
  split at h
  · next x y h1 h2 =>
    cases h
    obtain ⟨d1, s1⟩ := pyOks_dp hs h1 r1
    obtain ⟨d2, s2⟩ := pyOks_dp hs h2 r2
    exact ⟨_, _, .lst (SqL.of ha) d1, .lst (SqL.of hb) d2, s1, s2, rfl⟩
  · cases h
theorem v_cpL (R : Rm X) {o : CmpOp} (ho : o = .Eq ∨ o = .NotEq) (hset : isSet b = false) (hl : 1 ≤ l.kd) (hm : 1 ≤ m.kd) (ha : PE X a (tLv X.K l.kd la)) (hb : PE X b (tLv X.K m.kd lb)) :
    PE X (.Compare a [o] [b] pos) (tEv X.K fun r s => (la r s).bind fun x s1 => (lb r s1).bind fun y s2 => if heldL l s1 s2 then Res.opt s2 ((eqL s2 x y).map fun k => .bl (if decide (o = .NotEq) then !k else k)) else .bad) ∧
    PT X (.Compare a [o] [b] pos) (tTv X.K fun r s => (la r s).bind fun x s1 => (lb r s1).bind fun y s2 => if heldL l s1 s2 then Res.opt s2 ((eqL s2 x y).map fun k => if decide (o = .NotEq) then !k else k) else .bad) := by
  have hu := R.un
  have key : ∀ {α : Type} {f : Bool → α} {σ : L2.St} {H : Hp} {φ : List Addr} {r : Env} {S S' : Store} {z : α} {G : V → V → Hp → Prop}, VS X.K φ H r σ → HS X.K φ H S → ((la r S).bind fun x s1 => (lb r s1).bind fun y s2 => if heldL l s1 s2 then Res.opt s2 ((eqL s2 x y).map f) else .bad) = .ok z S' →
      (∀ φ2 H2 p q x y k, Ex φ H φ2 H2 → HS X.K φ2 H2 S' → Dp X.K H2 x p → Dp X.K H2 y q → SeqAt.shaped p = true → SeqAt.shaped q = true → PyData.eqv p q = k → z = f k → G x y H2) →
      tLv X.K l.kd la σ H fun x H1 => tLv X.K m.kd lb σ H1 fun y H2 => G x y H2 := by
    intro α f σ H φ r S S' z G hv hs e h
    obtain ⟨ds, S1, e1, e⟩ := bind_ok e
    obtain ⟨es, S2, e2, e⟩ := bind_ok e
    split at e
    · next hz =>
      obtain ⟨e3, rfl⟩ := opt_ok e
      obtain ⟨k, e4, e5⟩ := map_some e3
      refine ⟨φ, r, S, ds, S1, hv, hs, e1, fun φ1 H1 a vs x1 hs1 r1 lk => ⟨φ1, r, S1, es, _, hv.ext hs x1, hs1, e2, fun φ2 H2 b ws x2 hs2 r2 lk2 => ?_⟩⟩
      obtain ⟨vs', h1, h2⟩ := LK.held hz hl lk x2 hs1 hs2 r1
      obtain ⟨p, q, d1, d2, s1, s2, e6⟩ := eqL_dp hs2 e4 h1 (lk2.lst hm) h2 r2
      exact h φ2 H2 p q _ _ k (x1.trans x2) hs2 d1 d2 s1 s2 e6 e5
    · cases e
  rcases ho with rfl | rfl
  · refine ⟨(pe_cmpR (op_eqD (by omega)) ha hb (notSet_mark hset)).imp fun σ H Q ⟨φ, r, S, z, S', hv, hs, e, q⟩ => key hv hs e fun φ2 H2 p w x y k x2 hs2 d1 d2 s1 s2 e6 e5 => ⟨p, w, d1, d2, s1, s2, ?_⟩,
      (pt_cmpR (op_eqD (by omega)) ha hb (notSet_mark hset)).imp fun σ H Q ⟨φ, r, S, z, S', hv, hs, e, q⟩ => key hv hs e fun φ2 H2 p w x y k x2 hs2 d1 d2 s1 s2 e6 e5 => ⟨p, w, d1, d2, s1, s2, _, rfl, ?_⟩⟩
    · subst e5 e6
      exact (q.of x2).same hs2 (by simp only [Rep]; rfl)
    · subst e5 e6
      exact q φ2 H2 x2 hs2
  · refine ⟨(pe_cmpR (op_neD (by omega)) ha hb (notSet_mark hset)).imp fun σ H Q ⟨φ, r, S, z, S', hv, hs, e, q⟩ => key hv hs e fun φ2 H2 p w x y k x2 hs2 d1 d2 s1 s2 e6 e5 => ⟨p, w, d1, d2, s1, s2, ?_⟩,
      (pt_cmpR (op_neD (by omega)) ha hb (notSet_mark hset)).imp fun σ H Q ⟨φ, r, S, z, S', hv, hs, e, q⟩ => key hv hs e fun φ2 H2 p w x y k x2 hs2 d1 d2 s1 s2 e6 e5 => ⟨p, w, d1, d2, s1, s2, _, rfl, ?_⟩⟩
    · subst e5 e6
      exact (q.of x2).same hs2 (by simp only [Rep]; rfl)
    · subst e5 e6
      exact q φ2 H2 x2 hs2
/-! ### slices -/
theorem v_onone : PO X none (tOv X.K fun _ s => .ok none s) := po_none.imp fun σ H Q ⟨φ, r, S, o, S', hv, hs, e, q⟩ => by
  cases e
  exact q φ H Ex.rfl' hs
theorem v_osome (ha : PE X a (tEv X.K ea)) : PO X (some a) (tOv X.K fun r s => (ea r s).bind fun x s1 => match x with
    | .int i => .ok (some i) s1
    | _ => .bad) := (po_some ha).imp fun σ H Q ⟨φ, r, S, o, S', hv, hs, e, q⟩ => by
  obtain ⟨d, S1, e1, e⟩ := bind_ok e
  cases d <;> simp only at e <;> cases e
  exact ⟨φ, r, S, _, _, hv, hs, e1, fun φ1 x H1 x1 hs1 r1 => ⟨_, by simpa only [Rep] using r1, q φ1 H1 x1 hs1⟩⟩
variable {lo hi : Option Expr} {oa ob : Env → Store → Res (Option Int)} {p2 : Pos}
theorem v_sl (ha : PE X a (tEv X.K ea)) (hlo : PO X lo (tOv X.K oa)) (hhi : PO X hi (tOv X.K ob)) :
    PE X (.Subscript a (.Slice lo hi none p2) pos) (tEv X.K fun r s => (ea r s).bind fun x s1 => (oa r s1).bind fun l s2 => (ob r s2).bind fun h s3 => match listAt s3 x with
    | some xs => alloc (.lst (Wb.cut xs l h)) s3
    | none => Res.opt s3 (slD l h x)) :=
  (pe_slice (slD_sim.or slN_sim) ha hlo hhi).imp fun σ H Q ⟨φ, r, S, z, S', hv, hs, e, q⟩ => by
    obtain ⟨d, S1, e1, e⟩ := bind_ok e
    obtain ⟨l, S2, e2, e⟩ := bind_ok e
    obtain ⟨h, S3, e3, e⟩ := bind_ok e
    refine ⟨φ, r, S, d, S1, hv, hs, e1, fun φ1 x H1 x1 hs1 r1 => ⟨φ1, r, S1, l, S2, hv.ext hs x1, hs1, e2, fun φ2 H2 x2 hs2 => ⟨φ2, r, S2, h, S3, (hv.ext hs x1).ext hs1 x2, hs2, e3, fun φ3 H3 x3 hs3 => ?_⟩⟩⟩
    have x13 := x2.trans x3
    have r3 := Rep.ext hs1 x13 _ _ r1
    split at e
    · next xs h1 =>
      unfold alloc at e
      cases e
      refine .inr ⟨φ3, S3, d, xs, hs3, r3, h1, fun φ4 H4 a vs x4 hs4 r4 lk => ?_⟩
      obtain ⟨l1, l2, l3⟩ := lk
      refine (q.of (x1.trans x13)) (φ4 ++ [a]) (.ref a) H4 (x4.reg l3) (hs4.reg l2 ⟨vs, l1, r4⟩) ?_
      simp only [Rep]
      exact ⟨a, rfl, by rw [← hs4.len]; simp⟩
    · obtain ⟨h2, rfl⟩ := opt_ok e
      exact .inl ⟨φ3, _, d, z, hs3, r3, h2, q.of (x1.trans x13)⟩
theorem v_slL (ha : PE X a (tEv X.K ea)) (hlo : PO X lo (tOv X.K oa)) (hhi : PO X hi (tOv X.K ob)) :
    PE X (.Subscript a (.Slice lo hi none p2) pos) (tLv X.K 0 fun r s => (ea r s).bind fun x s1 => (oa r s1).bind fun l s2 => (ob r s2).bind fun h s3 => Res.opt s3 ((seqAt s3 x).map fun xs => Wb.cut xs l h)) :=
  (pe_slice (slD_sim.or slN_sim) ha hlo hhi).imp fun σ H Q ⟨φ, r, S, z, S', hv, hs, e, q⟩ => by
    obtain ⟨d, S1, e1, e⟩ := bind_ok e
    obtain ⟨l, S2, e2, e⟩ := bind_ok e
    obtain ⟨h, S3, e3, e⟩ := bind_ok e
    refine ⟨φ, r, S, d, S1, hv, hs, e1, fun φ1 x H1 x1 hs1 r1 => ⟨φ1, r, S1, l, S2, hv.ext hs x1, hs1, e2, fun φ2 H2 x2 hs2 => ⟨φ2, r, S2, h, S3, (hv.ext hs x1).ext hs1 x2, hs2, e3, fun φ3 H3 x3 hs3 => ?_⟩⟩⟩
    have x13 := x2.trans x3
    have r3 := Rep.ext hs1 x13 _ _ r1
    obtain ⟨h2, rfl⟩ := opt_ok e
    obtain ⟨xs, h3, rfl⟩ := map_some h2
    have q3 := q.of (x1.trans x13)
    have lst : listAt S' d = some xs → rSlD X.K x l h H3 Q ∨ rSlN X.K x l h H3 Q := fun h4 => .inr ⟨φ3, _, d, xs, hs3, r3, h4, fun φ4 H4 a vs x4 hs4 r4 lk => q3 φ4 H4 a vs x4 hs4 r4 (.inr (.inl lk.1))⟩
    cases d <;> simp only [seqAt] at h3 <;> try (cases h3; done)
    case tup ys =>
      cases h3
      refine .inl ⟨φ3, _, _, _, hs3, r3, rfl, fun φ4 w H4 x4 hs4 r4 => ?_⟩
      simp only [Rep] at r4
      obtain ⟨a, vs, rfl, h5, h6⟩ := r4
      exact q3 φ4 H4 a vs x4 hs4 h6 (.inr (.inr h5))
    case fix ys => exact lst h3
    case ref n => exact lst h3
/-! ### ranges -/
theorem rng_ok {i j : Int} (h : rngOk i j = true) : RgOk i j := by
  unfold rngOk at h
  simp only [Bool.and_eq_true, decide_eq_true_eq] at h
  obtain ⟨⟨⟨h1, h2⟩, h3⟩, h4⟩ := h
  exact ⟨by omega, by omega, by omega, by omega, by omega⟩
theorem reps_map {α : Type} {f : α → D} {g : α → V} (h : ∀ x, Rep K φ H (f x) (g x)) : ∀ l : List α, Reps K φ H (l.map f) (l.map g)
  | [] => by simp only [List.map_nil, Reps]
  | x :: l => by simp only [List.map_cons, Reps]; exact ⟨_, _, rfl, h x, reps_map h l⟩
theorem reps_rng (i j : Int) : Reps K φ H (rngL i j) (rgV i j) := reps_map (fun n => by simp only [Rep]) _
def tRv (K : PySem.W.Frag) (ea eb : Env → Store → Res D) : L2.St → Hp → (Int → Int → Hp → Prop) → Prop := fun σ H Q => tEv K ea σ H fun x H1 => tEv K eb σ H1 fun y H2 => ∃ i j, x = .int i ∧ y = .int j ∧ Q i j H2
theorem v_lit0 : PE X (.Constant (.int 0) 0 pos) (tEv X.K fun _ s => .ok (.int 0) s) := pe_int.imp (v_lit (fun _ _ _ q => q) fun φ H => by simp only [Rep])
theorem v_prg1 (hg : Gl X "range") (hm : X.mg "range" = none) (hst : isStar a = false) (ha : PE X a (tEv X.K ea)) : PRg X (.Call (.Name "range" p) [a] [] pos) (tRv X.K (fun _ s => .ok (.int 0) s) ea) := by
  intro pins s σ H Q I h
  refine prg_1 hg hm ha (star_cons hst) pins s σ H Q I ?_
  obtain ⟨φ, r, S, d, S', hv, hs, e, q⟩ := h
  cases e
  obtain ⟨φ1, r1, S1, d1, S2, hv1, hs1, e1, q1⟩ := q.same hs (v := .int 0) (by simp only [Rep])
  refine ⟨φ1, r1, S1, d1, S2, hv1, hs1, e1, fun φ2 v H2 x2 hs2 r2 => ?_⟩
  obtain ⟨i, j, h1, h2, h3⟩ := q1 φ2 v H2 x2 hs2 r2
  cases h1
  exact ⟨j, h2, h3⟩
theorem v_prg2 (hg : Gl X "range") (hm : X.mg "range" = none) (hst : isStar a = false) (hst2 : isStar b = false) (ha : PE X a (tEv X.K ea)) (hb : PE X b (tEv X.K eb)) : PRg X (.Call (.Name "range" p) [a, b] [] pos) (tRv X.K ea eb) :=
  prg_2 hg hm ha hb (star_cons hst) (star_cons hst2) (star_none (es := [b]) (by simp [hst2]))
theorem bind_rng {S' : Store} {z : D} {e : (((ea r S).bind fun x s1 => (eb r s1).bind fun y s2 => match x, y with
    | .int i, .int j => if rngOk i j then Res.ok (.tup (rngL i j)) s2 else .bad
    | _, _ => .bad)) = .ok z S'} : ∃ (i j : Int) (S1 : Store), ea r S = .ok (.int i) S1 ∧ eb r S1 = .ok (.int j) S' ∧ rngOk i j = true ∧ z = .tup (rngL i j) := by
  obtain ⟨x, S1, e1, e⟩ := bind_ok e
  obtain ⟨y, S2, e2, e⟩ := bind_ok e
  cases x <;> cases y <;> simp only at e <;> try (cases e; done)
  split at e
  · next h => cases e; exact ⟨_, _, S1, e1, e2, h, rfl⟩
  · cases e
theorem v_tupRng (R : Rm X) (hg : Gl X "tuple") (hm : X.mg "tuple" = none) (hst : isStar a = false) (ha : PRg X a (tRv X.K ea eb)) : PE X (.Call (.Name "tuple" p) [a] [] pos) (tEv X.K fun r s => (ea r s).bind fun x s1 => (eb r s1).bind fun y s2 => match x, y with
    | .int i, .int j => if rngOk i j then .ok (.tup (rngL i j)) s2 else .bad
    | _, _ => .bad) :=
  (pe_tupRg R.calm hg hm ha (star_cons hst)).imp fun σ H Q ⟨φ, r, S, z, S', hv, hs, e, q⟩ => by
    obtain ⟨i, j, S1, e1, e2, h, rfl⟩ := bind_rng (e := e)
    refine ⟨φ, r, S, _, S1, hv, hs, e1, fun φ1 x H1 x1 hs1 r1 => ⟨φ1, r, S1, _, S', hv.ext hs x1, hs1, e2, fun φ2 y H2 x2 hs2 r2 => ?_⟩⟩
    refine ⟨i, j, by simpa only [Rep] using r1, by simpa only [Rep] using r2, rng_ok h, fun p hp => ?_⟩
    exact (q.of (x1.trans x2)).tup hs2 (reps_rng i j) hp
theorem v_rngL (R : Rm X) (hg : Gl X "list") (hm : X.mg "list" = none) (hst : isStar a = false) (ha : PRg X a (tRv X.K ea eb)) : PE X (.Call (.Name "list" p) [a] [] pos) (tLv X.K 2 fun r s => (ea r s).bind fun x s1 => (eb r s1).bind fun y s2 => match x, y with
    | .int i, .int j => if rngOk i j then .ok (rngL i j) s2 else .bad
    | _, _ => .bad) :=
  (pe_listRg R.calm hg hm ha (star_cons hst)).imp fun σ H Q ⟨φ, r, S, z, S', hv, hs, e, q⟩ => by
    obtain ⟨x, S1, e1, e⟩ := bind_ok e
    obtain ⟨y, S2, e2, e⟩ := bind_ok e
    cases x <;> cases y <;> simp only at e <;> try (cases e; done)
    rename_i i _ j
    split at e
    · next h =>
      cases e
      refine ⟨φ, r, S, _, S1, hv, hs, e1, fun φ1 x H1 x1 hs1 r1 => ⟨φ1, r, S1, _, _, hv.ext hs x1, hs1, e2, fun φ2 y H2 x2 hs2 r2 => ?_⟩⟩
      refine ⟨i, j, by simpa only [Rep] using r1, by simpa only [Rep] using r2, rng_ok h, fun p hp => ?_⟩
      exact (q.of (x1.trans x2)).new hs2 (reps_rng i j) hp
    · cases e
/-! ### dicts -/
theorem HS.pushNew (hs : HS K φ H S) {p : Addr} {u : HO} {o : O} (hp : H p = none) (h : ∀ φ', ORep K φ' (upd H p u) o p) : HS K (φ ++ [p]) (upd H p u) (S ++ [o]) := hs.push hp (h _)
theorem v_newD : PE X (.Dict [] [] pos) (tEv X.K fun _ s => alloc (.dik []) s) := pe_dnewK.imp fun σ H Q ⟨φ, r, S, z, S', hv, hs, e, q⟩ p hp => by
  unfold alloc at e
  cases e
  refine q (φ ++ [p]) _ _ (Ex.newR hp) (hs.push hp ⟨[], upd_same, .nil⟩) ?_
  simp only [Rep]
  exact ⟨p, rfl, by rw [← hs.len]; simp⟩
/-- the values of a display -/
def tPv (K : PySem.W.Frag) (ev : Env → Store → Res (List (Str × D))) : L2.St → Hp → (List (V × V) → Hp → Prop) → Prop := fun σ H Q => ∃ (φ : List Addr) (r : Env) (S : Store) (ps : List (Str × D)) (S' : Store), VS K φ H r σ ∧ HS K φ H S ∧ ev r S = .ok ps S' ∧
  ∀ φ' (ws : List (Key × V)) H', Ex φ H φ' H' → HS K φ' H' S' → KRep K φ' H' (ps.map fun p => ((.inr p.1 : Key), p.2)) ws → Q (ws.map fun kv => (kV kv.1, kv.2)) H'
theorem v_disp_fold {ps : List (Str × D)} {ws : List (Key × V)} (h : KRep K φ H (ps.map fun p => ((.inr p.1 : Key), p.2)) ws) : ∀ {acc : List (Key × D)} {acw : List (Key × V)}, KRep K φ H acc acw →
    KRep K φ H (ps.foldl (fun a p => setK a (.inr p.1) p.2) acc) (mergeK acw ws) := by
  unfold KRep at h
  generalize hq : (ps.map fun p => ((.inr p.1 : Key), p.2)) = qs at h
  induction h generalizing ps with
  | nil =>
    intro acc acw ha
    cases ps with
    | nil => exact ha
    | cons _ _ => cases hq
  | @cons u w us ws' huw _ ih =>
    intro acc acw ha
    cases ps with
    | nil => cases hq
    | cons p ps =>
      simp only [List.map_cons, List.cons.injEq] at hq
      obtain ⟨rfl, hq⟩ := hq
      obtain ⟨h1, h2⟩ := huw
      show KRep K φ H (ps.foldl _ (setK acc (.inr p.1) p.2)) (mergeK (putK acw w.1 w.2) ws')
      refine ih hq ?_
      rw [← h1]
      exact ha.set _ h2
end
end Wb

/-! W12: displays of dicts, methods, sorted sets, comprehensions, targets, what a for walks. -/
namespace Wb
open PySem PySem.Spec PyProof.Rows L2
section
variable {X : Cx} {K : PySem.W.Frag} {φ φ1 φ' : List Addr} {H H1 H' : Hp} {S S1 S' : Store} {d : D} {Q : VK} {r : Env} {σ : L2.St} {a b : Expr} {ea eb : Env → Store → Res D} {la lb : Env → Store → Res (List D)} {pos p : Pos} {k : Nat} {l m : Ls}
/-! ### dicts -/
mutual
theorem Rep.move {q : List Addr} (h1 : ∀ a xs, H a = some (.tup xs) → H' a = some (.tup xs)) (h2 : ∀ a vs, FixL K H a vs → FixL K H' a vs) : ∀ (d : D) (v : V), Rep K φ H d v → Rep K (φ ++ q) H' d v
  | .non, v, h => by simpa only [Rep] using h
  | .bl _, v, h => by simpa only [Rep] using h
  | .int _, v, h => by simpa only [Rep] using h
  | .str _, v, h => by simpa only [Rep] using h
  | .tup ds, v, h => by
    simp only [Rep] at h ⊢
    obtain ⟨a, vs, e1, e2, e3⟩ := h
    exact ⟨a, vs, e1, h1 a vs e2, Reps.move h1 h2 ds vs e3⟩
  | .fix ds, v, h => by
    simp only [Rep] at h ⊢
    obtain ⟨a, vs, e1, e2, e3⟩ := h
    exact ⟨a, vs, e1, h2 a vs e2, Reps.move h1 h2 ds vs e3⟩
  | .ref n, v, h => by
    simp only [Rep] at h ⊢
    obtain ⟨a, e1, e2⟩ := h
    exact ⟨a, e1, by rw [List.getElem?_append_left (List.getElem?_eq_some_iff.mp e2).1]; exact e2⟩
theorem Reps.move {q : List Addr} (h1 : ∀ a xs, H a = some (.tup xs) → H' a = some (.tup xs)) (h2 : ∀ a vs, FixL K H a vs → FixL K H' a vs) : ∀ (ds : List D) (vs : List V), Reps K φ H ds vs → Reps K (φ ++ q) H' ds vs
  | [], vs, h => by simpa only [Reps] using h
  | d :: ds, vs, h => by
    simp only [Reps] at h ⊢
    obtain ⟨v, r, e1, e2, e3⟩ := h
    exact ⟨v, r, e1, Rep.move h1 h2 d v e2, Reps.move h1 h2 ds r e3⟩
end
theorem upd_tup {p : Addr} {u w : HO} (hp : H p = some w) (hc : ¬ Cold w) : (∀ a xs, H a = some (.tup xs) → upd H p u a = some (.tup xs)) ∧ ∀ a vs, FixL K H a vs → FixL K (upd H p u) a vs := by
  have ne : ∀ {a : Addr} {o : HO}, H a = some o → Cold o → a ≠ p := fun h c z => by
    rw [z, hp] at h; cases h; exact hc c
  refine ⟨fun a xs h => by rw [upd_ne (ne h trivial)]; exact h, fun a vs h => ?_⟩
  rcases h with ⟨o, h⟩ | h
  · exact .inl ⟨o, by rw [upd_ne (ne h trivial)]; exact h⟩
  · exact .inr h
theorem repP {p : Addr} {u : HO} {ws : List (Key × V)} {q : List Addr} (hp : H p = some (.dK ws)) (d : D) (v : V) (h : Rep K φ H d v) : Rep K (φ ++ q) (upd H p u) d v :=
  Rep.move (upd_tup (K := K) hp (fun z => z)).1 (upd_tup hp (fun z => z)).2 d v h
theorem repsP {p : Addr} {u : HO} {ws : List (Key × V)} {q : List Addr} (hp : H p = some (.dK ws)) (ds : List D) (vs : List V) (h : Reps K φ H ds vs) : Reps K (φ ++ q) (upd H p u) ds vs :=
  Reps.move (upd_tup (K := K) hp (fun z => z)).1 (upd_tup hp (fun z => z)).2 ds vs h
def trsOf (K : PySem.W.Frag) (cl : Nat → List D → Store → Res D) (kvs : List (Str × E)) : List (TE × TE) := kvs.map fun p => (tC (.str p.1), tEv K (evE cl p.2))
theorem pv_of {cl : Nat → List D → Store → Res D} : ∀ (kvs : List (Str × E)) σ H Q, tPv K (evKs cl kvs) σ H Q → tPairs (trsOf K cl kvs) σ H Q
  | [], σ, H, Q, ⟨φ, r, S, ps, S', hv, hs, e, q⟩ => by
    simp only [evKs] at e
    cases e
    exact q φ [] H Ex.rfl' hs .nil
  | (x, c) :: kvs, σ, H, Q, ⟨φ, r, S, ps, S', hv, hs, e, q⟩ => by
    simp only [evKs] at e
    obtain ⟨d, S1, e1, e⟩ := bind_ok e
    obtain ⟨ps', S2, e2, e⟩ := bind_ok e
    cases e
    show tEv K (evE cl c) σ H fun y H2 => tPairs (trsOf K cl kvs) σ H2 fun ps H3 => Q ((V.str x, y) :: ps) H3
    refine ⟨φ, r, S, d, S1, hv, hs, e1, fun φ1 y H1 x1 hs1 r1 => pv_of kvs σ H1 _ ⟨φ1, r, S1, ps', _, hv.ext hs x1, hs1, e2, fun φ2 ws H2 x2 hs2 k2 => ?_⟩⟩
    exact q φ2 ((.inr x, y) :: ws) H2 (x1.trans x2) hs2 (.cons ⟨rfl, Rep.ext hs1 x2 _ _ r1⟩ k2)
theorem KRep.k_len {κ : Type} {kvs : List (κ × D)} {ws : List (κ × V)} (h : KRep K φ H kvs ws) : ws.length = kvs.length := (Paired.length h).symm
theorem v_dic {cl : Nat → List D → Store → Res D} {kvs : List (Str × E)} {keys : List (Option Expr)} {vals : List Expr} (h : PPs X pos keys vals (trsOf X.K cl kvs)) (hall : keys.all (·.isSome) = true) (hl : keys.length = vals.length) (h0 : keys ≠ []) (h15 : keys.length ≤ 15) :
    PE X (.Dict keys vals pos) (tEv X.K fun r s => (evKs cl kvs r s).bind fun ps s1 => if ps.length ≤ 15 then alloc (.dik (ps.foldl (fun a p => setK a (.inr p.1) p.2) [])) s1 else .bad) :=
  (pe_disp h hall hl h0 h15).imp fun σ H Q ⟨φ, r, S, z, S', hv, hs, e, q⟩ p hp => by
    obtain ⟨ps, S1, e1, e⟩ := bind_ok e
    split at e
    · next hz =>
      unfold alloc at e
      cases e
      have x0 : Ex φ H φ (upd H p (.dK [])) := Ex.new hp
      have hs0 : HS X.K φ (upd H p (.dK [])) S := hs.side hp
      have np : p ∉ φ := fun z => hs.live z hp
      refine pv_of kvs σ _ _ ⟨φ, r, S, ps, S1, hv.ext hs x0, hs0, e1, fun φ1 ws H1 x1 hs1 k1 => ?_⟩
      have hp1 : H1 p = some (.dK []) := x1.keep p _ upd_same np
      have np1 : p ∉ φ1 := by
        obtain ⟨w, rfl, hw⟩ := x1.pre
        intro hm
        rcases List.mem_append.mp hm with z | z
        · exact np z
        · have := hw p z
          rw [upd_same] at this; cases this
      have hw : ws.length ≤ 15 := by rw [k1.k_len, List.length_map]; exact hz
      refine ⟨hp1, ws, rfl, hw, ?_⟩
      have hf := v_disp_fold k1 (acc := []) (acw := []) .nil
      -- the dict is filled, then named
      let kf := ps.foldl (fun a p => setK a (.inr p.1) p.2) ([] : List (Key × D))
      have k2 : ∀ {u : HO}, HS X.K φ1 (upd H1 p u) S1 ∧ Ex φ1 H1 φ1 (upd H1 p u) ∨ True := fun {u} => .inr trivial
      have hsub : ∀ b o, H1 b = some o → b ∈ φ1 → b ≠ p := fun b o _ hb z => np1 (z ▸ hb)
      have x2 : Ex φ H (φ1 ++ [p]) (upd H1 p (.dK (mergeK [] ws))) := by
        obtain ⟨w, rfl, hw⟩ := x1.pre
        refine ⟨⟨w ++ [p], by simp, fun c hc => ?_⟩, fun c o h1 h2 => ?_, fun c h1 => ?_⟩
        · rcases List.mem_append.mp hc with z | z
          · have := hw c z
            by_cases hcp : c = p
            · rw [hcp]; exact hp
            · rw [upd_ne hcp] at this; exact this
          · rw [List.mem_singleton.mp z]; exact hp
        · have hcp : c ≠ p := fun z => by rw [z, hp] at h1; cases h1
          rw [upd_ne hcp]
          exact x1.keep c o (by rw [upd_ne hcp]; exact h1) h2
        · by_cases hcp : c = p
          · rw [hcp]; exact hp
          · rw [upd_ne hcp] at h1
            have := x1.live c h1
            rw [upd_ne hcp] at this; exact this
      refine q (φ1 ++ [p]) _ _ x2 ?_ ?_
      · -- the store
        have up : ∀ {φ2 : List Addr} {d : D} {v : V}, Rep X.K φ2 H1 d v → Rep X.K (φ2 ++ [p]) (upd H1 p (.dK (mergeK [] ws))) d v := fun {φ2 d v} => repP hp1 d v
        refine ⟨by simp [hs1.len], List.nodup_append.mpr ⟨hs1.nd, by simp, fun a ha b hb z => np1 (by rw [List.mem_singleton.mp hb] at z; exact z ▸ ha)⟩, fun n ob a h1 h2 => ?_⟩
        by_cases hn : n < S1.length
        · rw [List.getElem?_append_left hn] at h1
          rw [List.getElem?_append_left (by rw [hs1.len]; exact hn)] at h2
          have hap : a ≠ p := fun z => np1 (z ▸ List.mem_of_getElem? h2)
          have := hs1.ob n ob a h1 h2
          cases ob with
          | lst ds => obtain ⟨vs, h3, h4⟩ := this; exact ⟨vs, by rw [upd_ne hap]; exact h3, repsP hp1 _ _ h4⟩
          | dik ds => obtain ⟨vs, h3, h4⟩ := this; exact ⟨vs, by rw [upd_ne hap]; exact h3, Paired.mapP h4 fun _ _ z => ⟨z.1, up z.2⟩⟩
          | dit ds => obtain ⟨vs, h3, h4⟩ := this; exact ⟨vs, by rw [upd_ne hap]; exact h3, Paired.mapP h4 fun _ _ z => ⟨z.1, up z.2⟩⟩
        · rw [List.getElem?_append_right (by omega)] at h1
          rw [List.getElem?_append_right (by rw [hs1.len]; omega)] at h2
          have z : n - S1.length = 0 := by
            have := (List.getElem?_eq_some_iff.mp h1).1
            simp at this; omega
          rw [hs1.len] at h2
          rw [z] at h1 h2
          simp at h1 h2
          subst h1; subst h2
          exact ⟨_, upd_same, Paired.mapP hf fun _ _ z => ⟨z.1, up z.2⟩⟩
      · simp only [Rep]
        exact ⟨p, rfl, by rw [← hs1.len]; simp⟩
    · cases e
/-! ### methods -/
theorem base_of {o : Expr} {m : Str} {env : PySem.Env} (h : isCall o = false) : attributeBase o m env (eval o env) = eval o env := by
  cases o <;> first | rfl | (simp [isCall] at h)
theorem few_one {env : PySem.Env} {cp : Pos} (h : isStar a = false) : ((backTo cp (starEach [a] env)).all (fun x => !x.1) && (backToKw cp (keywordEach [] env)).all (fun x => x.1.isSome)
      && decide (([a] : List Expr).length + ([] : List Keyword).length + (if ([] : List Keyword).isEmpty then 0 else 1) < 30)) = true := by
  rw [star_cons h]; rfl
theorem listK {x : D} {v : V} (hs : HS K φ H S) (hr : Rep K φ H x v) (h : (lstAt S x).isSome = true) : tyV K "list" v H := by
  cases x <;> simp only [lstAt] at h <;> try (cases h; done)
  next n =>
  simp only [Rep] at hr
  obtain ⟨a, rfl, ha⟩ := hr
  obtain ⟨o, ho, ro⟩ := hs.sget ha
  rw [ho] at h
  cases o with
  | lst xs =>
    obtain ⟨vs, hv, _⟩ := ro
    exact .inl ⟨rfl, vs, SqL.of hv⟩
  | dik _ => cases h
  | dit _ => cases h
variable {o : Expr} {eo : Env → Store → Res D} {ap cp : Pos}
theorem v_meth1 {mm : M} {n : String} {ms : Str} (hn : mName mm = some n) (hms : (ms = ("append" : Str) ∧ mm = .append) ∨ (ms = ("pop" : Str) ∧ mm = .popAt)) (hca : isCall o = false) (hst : isStar a = false) (hl : (ap.endLine == cp.line) = true)
    (ho : PE X o (tEv X.K eo)) (ha : PE X a (tEv X.K ea)) :
    PE X (.Call (.Attribute o ms ap) [a] [] cp) (tEv X.K fun r s => (eo r s).bind fun x s1 => if (lstAt s1 x).isSome then (((ea r s1).bind fun y s2 => (Res.ok [] s2).bind fun xs s3 => .ok (y :: xs) s3)).bind fun ds s2 => match methD s2 mm x ds with
    | some (z, s3) => .ok z s3
    | none => .bad
      else .bad) := by
  have key : ∀ {σ H Q}, tEv X.K (fun r s => (eo r s).bind fun x s1 => if (lstAt s1 x).isSome then (((ea r s1).bind fun y s2 => (Res.ok [] s2).bind fun xs s3 => .ok (y :: xs) s3)).bind fun ds s2 => match methD s2 mm x ds with
    | some (z, s3) => .ok z s3
    | none => .bad
      else .bad) σ H Q → tBM X.K "list" (rMeth X.K mm) (tEv X.K eo) (tCons (tEv X.K ea) tNil) σ H Q := fun {σ H Q} ⟨φ, r, S, z, S', hv, hs, e, q⟩ => by
    obtain ⟨x, S1, e1, e⟩ := bind_ok e
    split at e
    · next hls =>
      obtain ⟨ds, S2, e2, e⟩ := bind_ok e
      obtain ⟨y, S3, e3, e2⟩ := bind_ok e2
      simp only [Res.bind_ok] at e2
      cases e2
      split at e
      · next z' s3 h1 =>
        cases e
        refine ⟨φ, r, S, x, S1, hv, hs, e1, fun φ1 u H1 x1 hs1 r1 => ⟨listK hs1 r1 hls, φ1, r, S1, y, _, hv.ext hs x1, hs1, e3, fun φ2 w H2 x2 hs2 r2 => ?_⟩⟩
        exact ⟨φ2, _, x, [y], _, _, hs2, Rep.ext hs1 x2 _ _ r1, Reps.one r2, h1, q.of (x1.trans x2)⟩
      · cases e
    · cases e
  rcases hms with ⟨rfl, rfl⟩ | ⟨rfl, rfl⟩
  · cases hn
    exact (pe_bm F.plainAttrs_list F.slot_list_append F.type_list_append (meth_sim rfl) ho (pa_cons ha pa_nil (star_cons hst)) (base_of hca) (few_one hst) hl (star_cons hst) rfl).imp fun σ H Q q => key q
  · cases hn
    exact (pe_bm F.plainAttrs_list F.slot_list_pop F.type_list_pop (meth_sim rfl) ho (pa_cons ha pa_nil (star_cons hst)) (base_of hca) (few_one hst) hl (star_cons hst) rfl).imp fun σ H Q q => key q
theorem v_meth0 (hca : isCall o = false) (hl : (ap.endLine == cp.line) = true) (ho : PE X o (tEv X.K eo)) :
    PE X (.Call (.Attribute o "pop" ap) [] [] cp) (tEv X.K fun r s => (eo r s).bind fun x s1 => if (lstAt s1 x).isSome then (Res.ok [] s1).bind fun ds s2 => match methD s2 .pop x ds with
    | some (z, s3) => .ok z s3
    | none => .bad
      else .bad) :=
  (pe_bm0 F.plainAttrs_list F.slot_list_pop F.type_list_pop (meth_sim (m := .pop) rfl) ho (base_of hca) hl).imp fun σ H Q ⟨φ, r, S, z, S', hv, hs, e, q⟩ => by
    obtain ⟨x, S1, e1, e⟩ := bind_ok e
    split at e
    · next hls =>
      simp only [Res.bind_ok] at e
      split at e
      · next z' s3 h1 =>
        cases e
        exact ⟨φ, r, S, x, S1, hv, hs, e1, fun φ1 u H1 x1 hs1 r1 => ⟨listK hs1 r1 hls, φ1, _, x, [], _, _, hs1, r1, by simp only [Reps], h1, q.of x1⟩⟩
      · cases e
    · cases e
theorem v_ext (hk : 1 ≤ l.kd) (hca : isCall o = false) (hst : isStar a = false) (hl : (ap.endLine == cp.line) = true) (ho : PE X o (tEv X.K eo)) (ha : PE X a (tLv X.K l.kd la)) :
    PE X (.Call (.Attribute o "extend" ap) [a] [] cp) (tEv X.K fun r s => (eo r s).bind fun x s1 => if (lstAt s1 x).isSome then (la r s1).bind fun ds s2 => match x with
    | .ref n => match s2[n]? with
      | some (.lst xs) => if small (xs.length + ds.length) then .ok .non (s2.set n (.lst (xs ++ ds))) else .bad
      | _ => .bad
    | _ => .bad
      else .bad) :=
  (pe_bm F.plainAttrs_list F.slot_list_extend F.type_list_extend (ext_sim (k := l.kd) hk) ho (pa_cons ha pa_nil (star_cons hst)) (base_of hca) (few_one hst) hl (star_cons hst) rfl).imp fun σ H Q ⟨φ, r, S, z, S', hv, hs, e, q⟩ => by
    obtain ⟨x, S1, e1, e⟩ := bind_ok e
    split at e
    · next hls =>
      obtain ⟨ds, S2, e2, e⟩ := bind_ok e
      cases x <;> simp only at e <;> try (cases e; done)
      rename_i n _
      split at e
      · next xs h1 =>
        split at e
        · next hz =>
          cases e
          refine ⟨φ, r, S, _, S1, hv, hs, e1, fun φ1 u H1 x1 hs1 r1 => ⟨listK hs1 r1 hls, φ1, r, S1, ds, S2, hv.ext hs x1, hs1, e2, fun φ2 H2 b vs x2 hs2 r2 lk => ?_⟩⟩
          exact ⟨φ2, S2, n, xs, ds, vs, b, _, hs2, Rep.ext hs1 x2 _ _ r1, rfl, r2, lk, h1, hz, q.of (x1.trans x2)⟩
        · cases e
      · cases e
    · cases e
/-! ### sorted(set(..)) of pairs -/
theorem v_sortedSet (R : Rm X) {p2 pos2 : Pos} (hk : 1 ≤ k) (hg : Gl X "sorted") (hm : X.mg "sorted" = none) (hg2 : Gl X "set") (hm2 : X.mg "set" = none) (hst : isStar a = false) (ha : PE X a (tLv X.K k la)) :
    PE X (.Call (.Name "sorted" p) [.Call (.Name "set" p2) [a] [] pos2] [] pos) (tLv X.K 2 fun r s => (la r s).bind fun ds s1 => Res.opt s1 (sortSetD ds)) := by
  have hu := R.un
  have hset := pe_callTy (cr_setOfT R.calm (by omega)) hg2 hm2 boot_set (pa_cons ha pa_nil (star_cons hst)) (by decide) (by decide) (star_cons hst) rfl (p := p2) (pos := pos2)
  refine (pe_callB (cr_sortedT R.calm) hg hm boot_sorted (pa_cons hset pa_nil (star_cons rfl)) (by decide) (by decide) (star_cons rfl) rfl).imp fun σ H Q ⟨φ, r, S, es, S', hv, hs, e, q⟩ => ?_
  obtain ⟨ds, S1, e1, e⟩ := bind_ok e
  obtain ⟨e2, rfl⟩ := opt_ok e
  unfold sortSetD at e2
  split at e2
  · next ps h1 =>
    split at e2
    · next hz =>
      cases e2
      simp only [Bool.and_eq_true, decide_eq_true_eq, List.all_eq_true] at hz
      obtain ⟨z1, z2⟩ := hz
      refine ⟨φ, r, S, ds, _, hv, hs, e1, fun φ1 H1 a vs x1 hs1 r1 lk => ?_⟩
      obtain ⟨p1, p2⟩ := r1.pairs h1
      have hl := lk.lst hk
      have adr : ∀ v ∈ vs, ∃ t, v = V.ref t ∧ H1 t = some (.tup ([(prOf H1 v).1, (prOf H1 v).2].map V.int)) := p2
      -- the addresses with their ints
      let ks : List (Addr × List Int) := vs.map fun v => (match v with | .ref t => t | _ => 0, [(prOf H1 v).1, (prOf H1 v).2])
      have hks : ks.map (fun p => V.ref p.1) = vs := by
        show (vs.map _).map _ = vs
        rw [List.map_map]
        conv => rhs; rw [← List.map_id vs]
        refine List.map_congr_left fun v hv => ?_
        obtain ⟨t, rfl, _⟩ := p2 v hv
        rfl
      have hks2 : ∀ p ∈ ks, SqT X.K H1 p.1 (p.2.map V.int) := fun p hp => by
        obtain ⟨v, hv, rfl⟩ := List.mem_map.mp hp
        obtain ⟨t, rfl, ht⟩ := adr v hv
        exact SqT.of ht
      have hlen : vs.length = ps.length := by rw [← p1, List.length_map]
      refine ⟨a, ks, rfl, SqL.of (by rw [hks]; exact hl), hks2, by show (vs.map _).length < 64; rw [List.length_map, hlen]; exact z1, fun sa L hsa hL1 hL2 => ?_⟩
      have hcold : ∀ {u : HO}, ∀ b xs, H1 b = some (.tup xs) → upd H1 sa u b = some (.tup xs) := fun {u} b xs h => by rw [upd_ne (ne_of_none h hsa)]; exact h
      have bnd : ∀ p ∈ ks, p.2.length = 2 ∧ TS.Bd 1000000 p.2 := fun p hp => by
        obtain ⟨v, hv, rfl⟩ := List.mem_map.mp hp
        refine ⟨rfl, fun m hm => ?_⟩
        have hb := z2 (prOf H1 v) (by rw [← p1]; exact List.mem_map_of_mem hv)
        simp only [List.mem_cons, List.not_mem_nil, or_false] at hm
        rcases hm with rfl | rfl
        · exact ⟨hb.1.1.1, hb.1.1.2⟩
        · exact ⟨hb.1.2, hb.2⟩
      refine ⟨sa, L, 2, 1000000, rfl, upd_same, fun p hp => ?_, by omega, fun p hp => bnd p (hL1 p hp), fun L' np pm nd _ pw hnp => ?_⟩
      · obtain ⟨v, hv, rfl⟩ := List.mem_map.mp (hL1 p hp)
        obtain ⟨t, rfl, ht⟩ := adr v hv
        exact SqT.of (hcold _ _ ht)
      -- the sorted list
      have x2 : Ex φ1 H1 φ1 (upd H1 sa (SetTO X.prog X.w sa L)) := Ex.new hsa
      have hs2 := hs1.side (u := SetTO X.prog X.w sa L) hsa
      have inK : ∀ p ∈ L', p ∈ ks := fun p hp => hL1 p (pm.mem_iff.mp hp)
      have pr : ∀ p ∈ ks, ∃ v ∈ vs, ∃ i j, p = (p.1, [i, j]) ∧ v = V.ref p.1 ∧ prOf H1 v = (i, j) ∧ H1 p.1 = some (.tup [.int i, .int j]) := fun p hp => by
        obtain ⟨v, hv, rfl⟩ := List.mem_map.mp hp
        obtain ⟨t, rfl, ht⟩ := p2 v hv
        exact ⟨_, hv, _, _, rfl, rfl, rfl, ht⟩
      let g : Addr × List Int → Int × Int := fun p => (p.2.getD 0 0, p.2.getD 1 0)
      have hg : L'.map g = srtP (dedup ps) := by
        refine srtP_one (perm_of_nodup ?_ (dedup_nodup ps) fun x => ?_) ?_
        · -- no two alike
          have : (L'.map g).Nodup := by
            have h2 : L'.map (·.2) = (L'.map g).map fun q => [q.1, q.2] := by
              rw [List.map_map]
              refine List.map_congr_left fun p hp => ?_
              obtain ⟨_, _, i, j, e1, _⟩ := pr p (inK p hp)
              rw [e1]; rfl
            rw [h2] at nd
            exact nodup_of_map nd
          exact this
        · rw [mem_dedup]
          constructor
          · intro hx
            obtain ⟨p, hp, rfl⟩ := List.mem_map.mp hx
            obtain ⟨v, hv, i, j, e1, e2, e3, _⟩ := pr p (inK p hp)
            have : g p = prOf H1 v := by rw [e3, e1]; rfl
            rw [this, ← p1]
            exact List.mem_map_of_mem hv
          · intro hx
            rw [← p1] at hx
            obtain ⟨v, hv, rfl⟩ := List.mem_map.mp hx
            obtain ⟨t, rfl, ht⟩ := p2 v hv
            have hm : (t, [(prOf H1 (.ref t)).1, (prOf H1 (.ref t)).2]) ∈ ks := List.mem_map.mpr ⟨_, hv, rfl⟩
            obtain ⟨p, hp, e4⟩ := List.mem_map.mp (hL2 _ hm)
            refine List.mem_map.mpr ⟨p, pm.mem_iff.mpr hp, ?_⟩
            show (p.2.getD 0 0, p.2.getD 1 0) = _
            rw [e4]; rfl
        · refine List.pairwise_map.mpr (pw.imp_of_mem fun {p q} hp hq h => ?_)
          obtain ⟨_, _, i, j, e1, _⟩ := pr p (inK p hp)
          obtain ⟨_, _, i', j', e2, _⟩ := pr q (inK q hq)
          have b1 := (bnd p (inK p hp)).2
          have b2 := (bnd q (inK q hq)).2
          rw [e1] at b1 h ⊢
          rw [e2] at b2 h ⊢
          have c1 := b1 i (by simp); have c2 := b1 j (by simp); have c3 := b2 i' (by simp); have c4 := b2 j' (by simp)
          have c5 : i * 1000000 + j ≤ i' * 1000000 + j' := by
            simpa [TS.code] using h
          rw [le2_iff]
          show ¬ (i' < i ∨ i' = i ∧ j' < j)
          omega
      have hrep : Reps X.K φ1 (upd H1 sa (SetTO X.prog X.w sa L)) ((srtP (dedup ps)).map ofPair) (L'.map fun q => V.ref q.1) := by
        rw [← hg, List.map_map]
        refine reps_mapM fun p hp => ?_
        obtain ⟨_, _, i, j, e1, _, _, ht⟩ := pr p (inK p hp)
        show Rep _ _ _ (ofPair (g p)) (V.ref p.1)
        have : g p = (i, j) := by rw [e1]; rfl
        rw [this]
        simp only [ofPair, Rep, Reps]
        exact ⟨p.1, _, rfl, hcold _ _ ht, _, _, rfl, rfl, _, _, rfl, rfl, rfl⟩
      exact (NxtL.of (x1.trans x2) q).new hs2 hrep hnp
    · cases e2
  · cases e2
where
  reps_mapM {α : Type} {f : α → D} {g : α → V} {φ : List Addr} {H : Hp} : ∀ {l : List α}, (∀ x ∈ l, Rep X.K φ H (f x) (g x)) → Reps X.K φ H (l.map f) (l.map g)
    | [], _ => by simp only [List.map_nil, Reps]
    | x :: l, h => by
      simp only [List.map_cons, Reps]
      exact ⟨_, _, rfl, h x (List.mem_cons_self ..), reps_mapM fun y hy => h y (List.mem_cons_of_mem _ hy)⟩
  nodup_of_map {l : List (Int × Int)} (h : (l.map fun q => [q.1, q.2]).Nodup) : l.Nodup := List.Pairwise.of_map _ (fun _ _ hne e => hne (by rw [e])) h
end
end Wb

/-! W13: targets, what a loop walks, comprehensions. -/
namespace Wb
open PySem PySem.Spec PyProof.Rows L2 RZ
section
variable {X : Cx} {K : PySem.W.Frag} {φ φ1 φ' : List Addr} {H H1 H' : Hp} {S S1 S' : Store} {d : D} {r : Env} {σ : L2.St} {a b : Expr} {ea eb : Env → Store → Res D} {pos p : Pos} {js ks : List Nat}
/-! ### targets -/
theorem Stay.rfl' : Stay js σ σ := ⟨rfl, fun _ _ => rfl⟩
theorem Stay.trans {σ1 σ2 : L2.St} (h : Stay js σ σ1) (g : Stay ks σ1 σ2) : Stay (js ++ ks) σ σ2 :=
  ⟨g.1.trans h.1, fun j hj => (g.2 j fun m => hj (List.mem_append_right _ m)).trans (h.2 j fun m => hj (List.mem_append_left _ m))⟩
theorem Stay.sub {σ1 : L2.St} (h : Stay js σ σ1) (hs : ∀ j ∈ js, j ∈ ks) : Stay ks σ σ1 := ⟨h.1, fun j hj => h.2 j fun m => hj (hs j m)⟩
theorem v_gname {i : Nat} {x : Str} (hN : X.N.Nodup) (hi : X.N[i]? = some x) (hx : Loc X.env.scope x) (hf : X.fn x = true ∨ X.env.scope.names.lookup x = some .local) : PG X (.Name x pos) (tGv X.K [i] fun d r s => .ok (r.set i (some d)) s) :=
  (pg_name hN hi hx hf).imp fun v σ H Q ⟨φ, r, S, d, r', S', hv, hs, hr, e, q⟩ => by
    cases e
    exact q φ _ H Ex.rfl' hs (hv.set i hr) ⟨by simp, fun j hj => by
      rw [List.getElem?_set_ne]
      exact fun e => hj (by rw [e]; simp)⟩
theorem v_gnil : PGs X [] (tGsv X.K [] fun ds r s => .ok r s) :=
  ⟨fun pins s σ H vs us Q I rv q => by
    obtain ⟨φ, r, S, ds, r', S', hv, hs, hr, e, q⟩ := q
    cases e
    exact PyProof.Rows.assignInOrder_nil ⟨σ, H, I, q φ σ H Ex.rfl' hs hv Stay.rfl'⟩⟩
theorem each_cons {e : Expr} {es : List Expr} {env : PySem.Env} (h : isStar e = false) : assignEach (e :: es) env = (false, assign e env) :: assignEach es env := by
  cases e <;> first | rfl | (simp [isStar] at h)
theorem each_len {env : PySem.Env} : ∀ {es : List Expr}, (assignEach es env).length = es.length
  | [] => rfl
  | e :: es => by
    have ih := each_len (env := env) (es := es)
    cases e <;> (unfold assignEach; simp [ih])
theorem each_star {env : PySem.Env} : ∀ {es : List Expr}, es.any isStar = false → (assignEach es env).findIdx? (·.1) = none
  | [], _ => rfl
  | e :: es, h => by
    simp only [List.any_cons, Bool.or_eq_false_iff] at h
    rw [each_cons h.1, List.findIdx?_cons, each_star h.2]
    rfl
theorem v_gcons {e : Expr} {es : List Expr} {ev : D → Env → Store → Res Env} {evs : List D → Env → Store → Res Env} (hst : isStar e = false) (h1 : PG X e (tGv X.K js ev)) (h2 : PGs X es (tGsv X.K ks evs)) :
    PGs X (e :: es) (tGsv X.K (js ++ ks) fun ds r s => match ds with
      | d :: ds => (ev d r s).bind fun r1 s1 => evs ds r1 s1
      | [] => .bad) :=
  (pgs_cons h1 h2 (by rw [each_cons hst]; rfl)).imp fun vs σ H Q ⟨φ, r, S, ds, r', S', hv, hs, hr, e, q⟩ => by
    cases ds with
    | nil => cases e
    | cons d ds =>
      obtain ⟨r1, S1, e1, e⟩ := bind_ok e
      simp only [Reps] at hr
      obtain ⟨v, ws, rfl, h1, h2⟩ := hr
      refine ⟨v, ws, rfl, φ, r, S, d, r1, S1, hv, hs, h1, e1, fun φ1 σ1 H1 x1 hs1 hv1 st1 => ?_⟩
      exact ⟨φ1, r1, S1, ds, r', S', hv1, hs1, Reps.ext hs x1 _ _ h2, e, fun φ2 σ2 H2 x2 hs2 hv2 st2 => q φ2 σ2 H2 (x1.trans x2) hs2 hv2 (st1.trans st2)⟩
theorem v_gtup {es : List Expr} {k n : Nat} {evs : List D → Env → Store → Res Env} (hc : X.calm = true) (hst : es.any isStar = false) (hn : es.length = n) (h : PGs X es (tGsv X.K js evs)) :
    PG X (.Tuple es k pos) (tGv X.K js fun d r s => match d with
      | .tup xs => if xs.length = n then evs xs r s else .bad
      | _ => .bad) :=
  (pg_tup hc h (n := n) (by rw [each_len, hn]) (each_star hst)).imp fun v σ H Q ⟨φ, r, S, d, r', S', hv, hs, hr, e, q⟩ => by
    cases d <;> simp only at e <;> try (cases e; done)
    next xs =>
    split at e
    · next hl =>
      simp only [Rep] at hr
      obtain ⟨a, vs, rfl, ha, hr⟩ := hr
      exact ⟨a, vs, rfl, SqT.of ha, by rw [hr.len, hl], φ, r, S, xs, r', S', hv, hs, hr, e, q⟩
    · cases e
theorem v_gsub (R : Rm X) {o i : Expr} {eo ei : Env → Store → Res D} (hsl : isSlice i = false) (ho : PE X o (tEv X.K eo)) (hi : PE X i (tEv X.K ei)) :
    PG X (.Subscript o i pos) (tGv X.K [] fun d r s => (eo r s).bind fun x s1 => (ei r s1).bind fun y s2 => match setD s2 x y d with
      | some s3 => .ok r s3
      | none => .bad) :=
  (pg_sub ho hi (set_sim R) (by intro v; cases i <;> first | rfl | (simp [isSlice] at hsl))).imp fun v σ H Q ⟨φ, r, S, d, r', S', hv, hs, hr, e, q⟩ => by
    refine v_two (R := fun x y H2 => rSetD X.K x y v H2 fun H3 => Q σ H3) hv hs e fun φ2 H2 S2 x y d1 d2 x2 hs2 hv2 r1 r2 e3 => ?_
    split at e3
    · next h1 =>
      cases e3
      exact ⟨φ2, S2, d1, d2, d, _, hs2, r1, r2, Rep.ext hs x2 _ _ hr, h1, fun H3 x3 hs3 => q φ2 σ H3 (x2.trans x3) hs3 (hv2.ext hs2 x3) Stay.rfl'⟩
    · cases e3
/-! ### what a loop walks -/
def ItK (K : PySem.W.Frag) (φ : List Addr) (H : Hp) (p : List D × Option (Nat × List D)) (J : L2.It) : Prop :=
  ∀ φ2 H2 S2, Ex φ H φ2 H2 → HS K φ2 H2 S2 → still S2 p.2 = true →
    (∀ i d, p.1[i]? = some d → J.go i H2 ∧ ∀ x H3, J.yld i H2 x H3 → Ex φ2 H2 φ2 H3 ∧ HS K φ2 H3 S2 ∧ Rep K φ2 H3 d x) ∧ J.stop p.1.length H2
def tIv (K : PySem.W.Frag) (ev : Env → Store → Res (List D × Option (Nat × List D))) : TI := fun σ H R => ∃ φ r S p S', VS K φ H r σ ∧ HS K φ H S ∧ ev r S = .ok p S' ∧
  ∀ φ' H' J, Ex φ H φ' H' → HS K φ' H' S' → ItK K φ' H' p J → R J H'
theorem itk_tup {a : Addr} {xs : List D} {vs : List V} (hs : HS K φ H S) (ha : SqT K H a vs) (hr : Reps K φ H xs vs) : ItK K φ H (xs, none) (Itt K a) := fun φ2 H2 S2 x2 hs2 _ => by
  have hq := sqT_ext hs x2 ha
  have hr2 := Reps.ext hs x2 _ _ hr
  refine ⟨fun i d hd => ?_, ⟨vs, hq, Nat.le_of_eq hr2.len⟩⟩
  obtain ⟨v, hv, rv⟩ := hr2.at_ hd
  refine ⟨⟨vs, v, hq, hv⟩, fun x H3 hy => ?_⟩
  obtain ⟨rfl, hy⟩ := hy
  have := hy vs hq
  rw [hv] at this
  cases this
  exact ⟨Ex.rfl', hs2, rv⟩
theorem itk_lst {a : Addr} {xs : List D} {g : Option (Nat × List D)} (h : ∀ φ2 H2 S2, Ex φ H φ2 H2 → HS K φ2 H2 S2 → still S2 g = true → ∃ vs, SqL K H2 a vs ∧ Reps K φ2 H2 xs vs) : ItK K φ H (xs, g) (Itl K a) := fun φ2 H2 S2 x2 hs2 st => by
  obtain ⟨vs, hq, hr2⟩ := h φ2 H2 S2 x2 hs2 st
  refine ⟨fun i d hd => ?_, ⟨vs, hq, Nat.le_of_eq hr2.len⟩⟩
  obtain ⟨v, hv, rv⟩ := hr2.at_ hd
  refine ⟨⟨vs, v, hq, hv⟩, fun x H3 hy => ?_⟩
  obtain ⟨rfl, hy⟩ := hy
  have := hy vs hq
  rw [hv] at this
  cases this
  exact ⟨Ex.rfl', hs2, rv⟩
theorem v_it (he : PE X a (tEv X.K ea)) {tg : Expr} : PI X tg a (tIv X.K fun r s => (ea r s).bind fun x s1 => match x with
    | .tup xs => .ok (xs, none) s1
    | .fix xs => .ok (xs, none) s1
    | .str z => .ok (z.cps.toList.map fun c => .str ⟨#[c]⟩, none) s1
    | .ref n => match s1[n]? with
      | some (.lst xs) => .ok (xs, some (n, xs)) s1
      | _ => .bad
    | _ => .bad) := ⟨fun pins s σ H R I q => by
  obtain ⟨φ, r, S, p, S', hv, hs, e, q⟩ := q
  obtain ⟨x, S1, e1, e⟩ := bind_ok e
  cases x <;> simp only at e <;> try (cases e; done)
  case tup xs =>
    cases e
    refine (pi_tup he).run pins s σ H R I ⟨φ, r, S, _, S', hv, hs, e1, fun φ1 v H1 x1 hs1 r1 => ?_⟩
    simp only [Rep] at r1
    obtain ⟨b, vs, rfl, hb, hr⟩ := r1
    exact ⟨b, rfl, ⟨vs, SqT.of hb⟩, q φ1 H1 _ x1 hs1 (itk_tup hs1 (SqT.of hb) hr)⟩
  case fix xs =>
    cases e
    refine (pi_list he).run pins s σ H R I ⟨φ, r, S, _, S', hv, hs, e1, fun φ1 v H1 x1 hs1 r1 => ?_⟩
    simp only [Rep] at r1
    obtain ⟨b, vs, rfl, hb, hr⟩ := r1
    exact ⟨b, rfl, ⟨vs, hb.sq⟩, q φ1 H1 _ x1 hs1 (itk_lst fun φ2 H2 S2 x2 hs2 _ => ⟨vs, (fix_ext hs1 x2 hb).sq, Reps.ext hs1 x2 _ _ hr⟩)⟩
  case str z =>
    cases e
    refine (pi_str he).run pins s σ H R I ⟨φ, r, S, _, S', hv, hs, e1, fun φ1 v H1 x1 hs1 r1 => ?_⟩
    simp only [Rep] at r1
    subst r1
    refine ⟨z, rfl, q φ1 H1 _ x1 hs1 fun φ2 H2 S2 x2 hs2 _ => ⟨fun i d hd => ?_, ?_⟩⟩
    · simp only [List.getElem?_map, Option.map_eq_some_iff] at hd
      obtain ⟨c, hc, rfl⟩ := hd
      rw [Array.getElem?_toList] at hc
      refine ⟨(Array.getElem?_eq_some_iff.mp hc).1, fun x H3 hy => ?_⟩
      obtain ⟨rfl, c', hc', rfl⟩ := hy
      rw [hc] at hc'
      cases hc'
      exact ⟨Ex.rfl', hs2, by simp only [Rep]⟩
    · show z.cps.size ≤ _
      simp
  case ref n =>
    split at e
    · next xs hx =>
      cases e
      refine (pi_list he).run pins s σ H R I ⟨φ, r, S, _, S', hv, hs, e1, fun φ1 v H1 x1 hs1 r1 => ?_⟩
      simp only [Rep] at r1
      obtain ⟨b, rfl, hb⟩ := r1
      obtain ⟨o, ho1, ro⟩ := hs1.sget hb
      rw [hx] at ho1
      cases ho1
      obtain ⟨vs, h1, h2⟩ := ro
      refine ⟨b, rfl, ⟨vs, SqL.of h1⟩, q φ1 H1 _ x1 hs1 (itk_lst fun φ2 H2 S2 x2 hs2 st => ?_)⟩
      have hx2 : S2[n]? = some (.lst xs) := of_decide_eq_true st
      obtain ⟨b2, hb2, ro2⟩ := hs2.at_ hx2
      obtain ⟨ψ, rfl, _⟩ := x2.pre
      rw [List.getElem?_append_left (List.getElem?_eq_some_iff.mp hb).1, hb] at hb2
      cases hb2
      obtain ⟨vs2, h3, h4⟩ := ro2
      exact ⟨vs2, SqL.of h3, h4⟩
    · cases e⟩
variable {la : Env → Store → Res (List D)}
theorem v_itL (he : PE X a (tLv X.K 2 la)) {tg : Expr} : PI X tg a (tIv X.K fun r s => (la r s).bind fun xs s1 => .ok (xs, none) s1) := ⟨fun pins s σ H R I q => by
  obtain ⟨φ, r, S, p, S', hv, hs, e, q⟩ := q
  obtain ⟨xs, S1, e1, e⟩ := bind_ok e
  cases e
  refine (pi_list he).run pins s σ H R I ⟨φ, r, S, _, S', hv, hs, e1, fun φ1 H1 b vs x1 hs1 r1 lk => ?_⟩
  obtain ⟨l1, l2, l3⟩ := lk
  exact ⟨b, rfl, ⟨vs, SqL.of l1⟩, q φ1 H1 _ x1 hs1 (itk_lst fun φ2 H2 S2 x2 hs2 _ => ⟨vs, SqL.of (x2.keep b _ l1 l2), Reps.ext hs1 x2 _ _ r1⟩)⟩⟩
theorem itk_rng {i j : Int} {n : Nat} (hn : n = (j - i).toNat) : ItK K φ H (rngL i j, none) (Itr i n) := fun φ2 H2 S2 x2 hs2 _ => by
  subst hn
  refine ⟨fun k d hd => ?_, ?_⟩
  · unfold rngL at hd
    rw [List.getElem?_map] at hd
    obtain ⟨m, hm, rfl⟩ := Option.map_eq_some_iff.mp hd
    obtain ⟨h1, h2⟩ := List.getElem?_eq_some_iff.mp hm
    simp only [List.length_range] at h1
    simp only [List.getElem_range] at h2
    subst h2
    refine ⟨h1, fun x H3 hy => ?_⟩
    obtain ⟨rfl, rfl⟩ := hy
    exact ⟨Ex.rfl', hs2, by simp only [Rep]⟩
  · show (j - i).toNat ≤ _
    unfold rngL
    simp
theorem v_itr1 (hg : Gl X "range") (hm : X.mg "range" = none) (hst : isStar a = false) (he : PE X a (tEv X.K ea)) {tg : Expr} : PI X tg (.Call (.Name "range" p) [a] [] pos) (tIv X.K fun r s => (Res.ok (D.int 0) s).bind fun x s1 => (ea r s1).bind fun y s2 => match x, y with
      | .int i, .int j => if rngOk i j then .ok (rngL i j, none) s2 else .bad
      | _, _ => .bad) :=
  (pi_range1 hg hm (pa_cons he pa_nil (star_cons hst)) (star_cons hst)).imp fun σ H R ⟨φ, r, S, p, S', hv, hs, e, q⟩ => by
    simp only [Res.bind_ok] at e
    obtain ⟨y, S2, e2, e⟩ := bind_ok e
    cases y <;> simp only at e <;> try (cases e; done)
    next j =>
    split at e
    · next hz =>
      cases e
      refine ⟨φ, r, S, _, _, hv, hs, e2, fun φ1 v H1 x1 hs1 r1 => ?_⟩
      simp only [Rep] at r1
      subst r1
      have hz' := rng_ok hz
      exact ⟨j, rfl, by have := hz'.2.2.1; omega, by have := hz'.2.2.2; omega, q φ1 H1 _ x1 hs1 (itk_rng (by simp))⟩
    · cases e
theorem v_itr2 (hg : Gl X "range") (hm : X.mg "range" = none) (hst : isStar a = false) (hst2 : isStar b = false) (he : PE X a (tEv X.K ea)) (hb : PE X b (tEv X.K eb)) {tg : Expr} : PI X tg (.Call (.Name "range" p) [a, b] [] pos) (tIv X.K fun r s => (ea r s).bind fun x s1 => (eb r s1).bind fun y s2 => match x, y with
      | .int i, .int j => if rngOk i j then .ok (rngL i j, none) s2 else .bad
      | _, _ => .bad) :=
  (pi_range2 hg hm (pa_cons he (pa_cons hb pa_nil (star_cons hst2)) (star_cons hst)) (by rw [star_cons hst, star_cons hst2]; rfl) (star_cons hst2)).imp fun σ H R ⟨φ, r, S, p, S', hv, hs, e, q⟩ => by
    obtain ⟨x, S1, e1, e⟩ := bind_ok e
    obtain ⟨y, S2, e2, e⟩ := bind_ok e
    cases x <;> cases y <;> simp only at e <;> try (cases e; done)
    rename_i i _ j
    split at e
    · next hz =>
      cases e
      refine ⟨φ, r, S, _, _, hv, hs, e1, fun φ1 v H1 x1 hs1 r1 => ⟨φ1, r, _, _, _, hv.ext hs x1, hs1, e2, fun φ2 w H2 x2 hs2 r2 => ?_⟩⟩
      simp only [Rep] at r1 r2
      subst r1; subst r2
      have hz' := rng_ok hz
      exact ⟨i, j, rfl, ⟨by have := hz'.1; omega, by have := hz'.2.1; omega, by have := hz'.2.2.1; omega, by have := hz'.2.2.2; omega⟩, q φ2 H2 _ (x1.trans x2) hs2 (itk_rng rfl)⟩
    · cases e
theorem zipL_at : ∀ {xs ys : List D} {i : Nat} {d : D}, (zipL xs ys)[i]? = some d → ∃ x y, xs[i]? = some x ∧ ys[i]? = some y ∧ d = .tup [x, y]
  | [], ys, i, d, h => by simp [zipL] at h
  | x :: xs, [], i, d, h => by simp [zipL] at h
  | x :: xs, y :: ys, 0, d, h => by
    simp [zipL] at h
    exact ⟨x, y, rfl, rfl, h.symm⟩
  | x :: xs, y :: ys, i + 1, d, h => by
    simp only [zipL, List.getElem?_cons_succ] at h ⊢
    exact zipL_at h
theorem zipL_len : ∀ {xs ys : List D}, (zipL xs ys).length = min xs.length ys.length
  | [], ys => by simp [zipL]
  | x :: xs, [] => by simp [zipL]
  | x :: xs, y :: ys => by simp [zipL, zipL_len (xs := xs) (ys := ys)]
theorem v_itz {elts : List Expr} {kk : Nat} {tpos : Pos} (hg : Gl X "zip") (hm : X.mg "zip" = none) (hst : isStar a = false) (hst2 : isStar b = false) (he : PE X a (tEv X.K ea)) (hb : PE X b (tEv X.K eb)) :
    PI X (.Tuple elts kk tpos) (.Call (.Name "zip" p) [a, b] [] pos) (tIv X.K fun r s => (ea r s).bind fun x s1 => (eb r s1).bind fun y s2 => match x, y with
      | .tup xs, .tup ys => .ok (zipL xs ys, none) s2
      | _, _ => .bad) :=
  (pi_zipA hg hm (pa_cons he (pa_cons hb pa_nil (star_cons hst2)) (star_cons hst)) (star_cons hst) (star_none (by simp [hst2]))).imp fun σ H R ⟨φ, r, S, p, S', hv, hs, e, q⟩ => by
    obtain ⟨x, S1, e1, e⟩ := bind_ok e
    obtain ⟨y, S2, e2, e⟩ := bind_ok e
    cases x <;> cases y <;> simp only at e <;> try (cases e; done)
    rename_i xs _ ys
    cases e
    refine ⟨φ, r, S, _, _, hv, hs, e1, fun φ1 v H1 x1 hs1 r1 => ⟨φ1, r, _, _, _, hv.ext hs x1, hs1, e2, fun φ2 w H2 x2 hs2 r2 => ?_⟩⟩
    have r1' := Rep.ext hs1 x2 _ _ r1
    simp only [Rep] at r1' r2
    obtain ⟨p1, vs, rfl, h1, g1⟩ := r1'
    obtain ⟨p2, ws, rfl, h2, g2⟩ := r2
    refine ⟨p1, p2, vs, ws, rfl, .inr ⟨SqT.of h1, SqT.of h2, q φ2 H2 _ (x1.trans x2) hs2 fun φ3 H3 S3 x3 hs3 _ => ?_⟩⟩
    have q1 := sqT_ext hs2 x3 (SqT.of (K := X.K) h1)
    have q2 := sqT_ext hs2 x3 (SqT.of (K := X.K) h2)
    have k1 := Reps.ext hs2 x3 _ _ g1
    have k2 := Reps.ext hs2 x3 _ _ g2
    refine ⟨fun i d hd => ?_, ⟨vs, ws, q1, q2, ?_⟩⟩
    · obtain ⟨d1, d2, a1, a2, rfl⟩ := zipL_at hd
      obtain ⟨v1, b1, c1⟩ := k1.at_ a1
      obtain ⟨v2, b2, c2⟩ := k2.at_ a2
      refine ⟨⟨vs, ws, v1, v2, q1, q2, b1, b2⟩, fun x H4 hy => ?_⟩
      obtain ⟨T, y1, y2, rfl, hT, rfl, z1, z2⟩ := hy
      have e1 := z1 vs q1
      have e2 := z2 ws q2
      rw [b1] at e1
      rw [b2] at e2
      cases e1; cases e2
      have x4 : Ex φ3 H3 φ3 (upd H3 T (.tup [v1, v2])) := Ex.new hT
      refine ⟨x4, hs3.side hT, ?_⟩
      simp only [Rep]
      refine ⟨T, _, rfl, upd_same, ?_⟩
      simp only [Reps]
      exact ⟨_, _, rfl, Rep.ext hs3 x4 _ _ c1, _, _, rfl, Rep.ext hs3 x4 _ _ c2, rfl⟩
    · show vs.length ≤ (zipL xs ys).length ∨ ws.length ≤ (zipL xs ys).length
      rw [zipL_len, k1.len, k2.len]
      omega
end
end Wb

/-! W14: comprehensions. -/
namespace Wb
open PySem PySem.Spec PyProof.Rows L2
section
variable {X : Cx} {K : PySem.W.Frag} {φ φ0 φ1 φ2 φ' : List Addr} {H H0 H1 H2 H' : Hp} {S S1 S' : Store} {d : D} {r : Env} {σ : L2.St} {pos p : Pos} {js own : List Nat}
theorem wipe_at {σ : L2.St} : ∀ {vs : List Nat} {j : Nat}, (L2.wipe σ vs)[j]? = if j ∈ vs then (σ[j]?).map (fun _ => none) else σ[j]?
  | [], j => by simp [L2.wipe]
  | v :: vs, j => by
    unfold L2.wipe
    rw [List.getElem?_set, L2.wipe_length, wipe_at (vs := vs) (j := j)]
    by_cases h : v = j
    · subst h
      simp only [if_true, List.mem_cons, true_or]
      by_cases hl : v < σ.length
      · rw [if_pos hl, List.getElem?_eq_getElem hl]; rfl
      · rw [if_neg hl, List.getElem?_eq_none (by omega)]; rfl
    · rw [if_neg h]
      have : (j ∈ v :: vs) = (j ∈ vs) := by simp [Ne.symm h]
      simp only [this]
theorem wipe_stay {σ σ2 : L2.St} (h : Stay own (L2.wipe σ own) σ2) : L2.wipe σ2 own = L2.wipe σ own := by
  refine List.ext_getElem? fun j => ?_
  rw [wipe_at, wipe_at]
  by_cases hj : j ∈ own
  · rw [if_pos hj, if_pos hj]
    have hl : σ2.length = σ.length := by rw [h.1, L2.wipe_length]
    by_cases hl2 : j < σ.length
    · rw [List.getElem?_eq_getElem hl2, List.getElem?_eq_getElem (by omega)]; rfl
    · rw [List.getElem?_eq_none (by omega), List.getElem?_eq_none (by omega)]
  · rw [if_neg hj, if_neg hj, h.2 j hj, wipe_at, if_neg hj]
theorem HS.bump (hs : HS K φ H S) {q : Addr} {u w : HO} (hq : q ∉ φ) (hp : H q = some w) (hc : ¬ Cold w) : HS K φ (upd H q u) S := by
  have hu := upd_tup (K := K) (u := u) hp hc
  have mv : ∀ d v, Rep K φ H d v → Rep K φ (upd H q u) d v := fun d v h => by simpa using Rep.move (q := []) hu.1 hu.2 d v h
  have mvs : ∀ d v, Reps K φ H d v → Reps K φ (upd H q u) d v := fun d v h => by simpa using Reps.move (q := []) hu.1 hu.2 d v h
  refine ⟨hs.len, hs.nd, fun n o a h1 h2 => ?_⟩
  have ne : a ≠ q := fun e => hq (by rw [← e]; exact List.mem_of_getElem? h2)
  have ho := hs.ob n o a h1 h2
  cases o with
  | lst ds => obtain ⟨ws, g1, g2⟩ := ho; exact ⟨ws, by rw [upd_ne ne]; exact g1, mvs _ _ g2⟩
  | dik kvs => obtain ⟨ws, g1, g2⟩ := ho; exact ⟨ws, by rw [upd_ne ne]; exact g1, Paired.mapP g2 fun p q z => ⟨z.1, mv _ _ z.2⟩⟩
  | dit kvs => obtain ⟨ws, g1, g2⟩ := ho; exact ⟨ws, by rw [upd_ne ne]; exact g1, Paired.mapP g2 fun p q z => ⟨z.1, mv _ _ z.2⟩⟩
theorem Reps.bump {q : Addr} {u w : HO} (hp : H q = some w) (hc : ¬ Cold w) {ds : List D} {vs : List V} (h : Reps K φ H ds vs) : Reps K φ (upd H q u) ds vs := by
  have hu := upd_tup (K := K) (u := u) hp hc
  simpa using Reps.move (q := []) hu.1 hu.2 ds vs h
theorem Ex.bump (x : Ex φ0 H0 φ H) {q : Addr} {u : HO} (h0 : H0 q = none) : Ex φ0 H0 φ (upd H q u) := by
  obtain ⟨p, k, l⟩ := x
  refine ⟨p, fun a o ha hn => ?_, fun a ha => ?_⟩
  · rw [upd_ne (ne_of_none ha h0)]; exact k a o ha hn
  · refine l a ?_
    by_cases e : a = q
    · subst e; rw [upd_same] at ha; cases ha
    · rw [upd_ne e] at ha; exact ha
theorem Ex.notin (x : Ex φ H φ' H') {q : Addr} {o : HO} (hq : H q = some o) (hn : q ∉ φ) : q ∉ φ' ∧ H' q = some o := by
  refine ⟨?_, x.keep q o hq hn⟩
  obtain ⟨⟨ψ, rfl, hψ⟩, _, _⟩ := x
  intro hm
  rcases List.mem_append.mp hm with h | h
  · exact hn h
  · rw [hψ q h] at hq; cases hq
variable {it : Env → Store → Res (List D × Option (Nat × List D))} {gt : D → Env → Store → Res Env} {tc : Env → Store → Res Bool} {ee : Env → Store → Res D}
def stepOf (gt : D → Env → Store → Res Env) (tc : Env → Store → Res Bool) (ee : Env → Store → Res D) (r : Env) : D → Store → Res (Option D) := fun d s2 => (gt d r s2).bind fun r3 s3 => (tc r3 s3).bind fun k s4 => if k then (ee r3 s4).bind fun v s5 => .ok (some v) s5 else .ok none s4
/-- the new list at D, as far as it has come -/
def CompW (K : PySem.W.Frag) (φ0 : List Addr) (H0 : Hp) (D : Addr) (step : Wb.D → Store → Res (Option Wb.D)) (p : List Wb.D × Option (Nat × List Wb.D)) (res : List Wb.D) (S' : Store) (i m : Nat) (H : Hp) : Prop :=
  m = p.1.length - i ∧ i ≤ p.1.length ∧ ∃ φ2 S2 acc vacc, Ex φ0 H0 φ2 H ∧ HS K φ2 H S2 ∧ D ∉ φ2 ∧ H D = some (.lst vacc) ∧ Reps K φ2 H acc vacc ∧ compGo step p.2 (p.1.drop i) acc S2 = .ok res S'
theorem comp_core {J : L2.It} {p : List Wb.D × Option (Nat × List Wb.D)} {res : List Wb.D} {Q : VK} {D : Addr} (hj : ∀ j ∈ js, j ∈ own) (hv : VS K φ0 H0 r σ) (hs : HS K φ0 H0 S) (hi : ItK K φ0 H0 p J) (hD : H0 D = none)
    (e : compGo (stepOf gt tc ee (Wb.wipe r own)) p.2 p.1 [] S = .ok res S') (q : NxtL K φ0 H0 S' 2 res Q) :
    ∃ W : Nat → Nat → Hp → Prop, (∃ m, W 0 m (upd H0 D (.lst []))) ∧ ∀ i m H, W i m H →
      (J.stop i H ∧ Q (.ref D) H) ∨ (J.go i H ∧ ∃ Nx : Hp → Prop, (∀ H', Nx H' → ∃ m', m' < m ∧ W (i + 1) m' H') ∧ ∀ x H', J.yld i H x H' → tGv K js gt x (L2.wipe σ own) H' fun σ2 H2 => L2.wipe σ2 own = L2.wipe σ own ∧ tTv K tc σ2 H2 fun b H3 =>
        if b = true then tEv K ee σ2 H3 fun y H4 => ∃ acc, H4 D = some (.lst acc) ∧ acc.length < sizeLine ∧ Nx (upd H4 D (.lst (acc ++ [y]))) else Nx H3) := by
  refine ⟨CompW K φ0 H0 D (stepOf gt tc ee (Wb.wipe r own)) p res S', ⟨p.1.length, by simp, Nat.zero_le _, φ0, S, [], [], Ex.new hD, ?_, ?_, upd_same, by simp only [Reps], by simpa using e⟩, ?_⟩
  · exact hs.side hD
  · exact fun hm => hs.live hm hD
  rintro i m H ⟨rfl, hi2, φ2, S2, acc, vacc, x2, hs2, nD, hHD, hr, e2⟩
  have st : still S2 p.2 = true := by
    by_cases h : still S2 p.2 = true
    · exact h
    · cases hd : p.1.drop i with
      | nil => rw [hd] at e2; unfold compGo at e2; rw [if_neg h] at e2; cases e2
      | cons => rw [hd] at e2; unfold compGo at e2; rw [if_neg h] at e2; cases e2
  obtain ⟨turn, stop⟩ := hi φ2 H S2 x2 hs2 st
  by_cases hlt : i < p.1.length
  · obtain ⟨go, yld⟩ := turn i p.1[i] (List.getElem?_eq_getElem hlt)
    refine .inr ⟨go, fun H' => ∃ φ3 S3 acc3 vacc3, Ex φ0 H0 φ3 H' ∧ HS K φ3 H' S3 ∧ D ∉ φ3 ∧ H' D = some (.lst vacc3) ∧ Reps K φ3 H' acc3 vacc3 ∧ compGo (stepOf gt tc ee (Wb.wipe r own)) p.2 (p.1.drop (i + 1)) acc3 S3 = .ok res S', fun H' h => ⟨p.1.length - (i + 1), by omega, rfl, hlt, h⟩, fun x H' hy => ?_⟩
    obtain ⟨xy, hsy, ry⟩ := yld x H' hy
    rw [List.drop_eq_getElem_cons hlt] at e2
    unfold compGo at e2
    rw [if_pos st] at e2
    -- the new list is not the store's, and stays
    obtain ⟨nDy, hDy⟩ := xy.notin hHD nD
    have rA := Reps.ext hs2 xy _ _ hr
    have xB := x2.trans xy
    cases hst : stepOf gt tc ee (Wb.wipe r own) p.1[i] S2 with
    | exc x s => rw [hst] at e2; cases e2
    | bad => rw [hst] at e2; cases e2
    | ok ov S5 =>
      rw [hst] at e2
      obtain ⟨r3, S3, g1, g⟩ := bind_ok hst
      obtain ⟨k, S4, g2, g⟩ := bind_ok g
      refine ⟨φ2, _, S2, p.1[i], r3, S3, (hv.ext hs xB).wipe own, hsy, ry, g1, fun φ3 σ3 H3 x3 hs3 hv3 st3 => ⟨wipe_stay (st3.sub hj), φ3, r3, S3, k, S4, hv3, hs3, g2, fun φ4 H4 x4 hs4 => ?_⟩⟩
      obtain ⟨nD4, hD4⟩ := (x3.trans x4).notin hDy nDy
      have rB := Reps.ext hsy (x3.trans x4) _ _ rA
      have xC := xB.trans (x3.trans x4)
      cases k with
      | false =>
        simp only [Bool.false_eq_true, if_false] at g ⊢
        cases g
        exact ⟨φ4, _, acc, vacc, xC, hs4, nD4, hD4, rB, e2⟩
      | true =>
        simp only [if_true] at g ⊢
        obtain ⟨v, S6, g3, g⟩ := bind_ok g
        cases g
        refine ⟨φ4, r3, S4, v, _, hv3.ext hs3 x4, hs4, g3, fun φ5 y H5 x5 hs5 r5 => ?_⟩
        obtain ⟨nD5, hD5⟩ := x5.notin hD4 nD4
        simp only at e2
        split at e2
        · next hz =>
          have hlen : vacc.length = acc.length := hr.len
          refine ⟨vacc, hD5, by rw [hlen]; have := small_le hz; rw [sizeLine_eq]; omega, φ5, _, acc ++ [v], vacc ++ [y], (xC.trans x5).bump hD, hs5.bump nD5 hD5 (fun c => c), nD5, upd_same, ?_, e2⟩
          exact Reps.bump hD5 (fun c => c) ((Reps.ext hs4 x5 _ _ rB).app (Reps.one r5))
        · cases e2
  · have hi3 : i = p.1.length := by omega
    subst hi3
    refine .inl ⟨stop, ?_⟩
    rw [List.drop_length] at e2
    unfold compGo at e2
    rw [if_pos st] at e2
    cases e2
    exact q φ2 H D vacc x2 hs2 hr ⟨hHD, nD, hD⟩
variable {elt tg iter : Expr} {ifs : List Expr} {scope : Scope} {ownL : List (Str × Nat)}
/-- the comprehension's reading is the kit's -/
theorem comp_imp (hj : ∀ j ∈ js, j ∈ own) : ∀ σ H Q, tLv K 2 (fun r s => (it r s).bind fun p s1 => compGo (stepOf gt tc ee (Wb.wipe r own)) p.2 p.1 [] s1) σ H Q → tLc (tIv K it) (tGv K js gt) (tTv K tc) (tEv K ee) own σ H Q := fun σ H Q ⟨φ, r, S, ds, S', hv, hs, e, q⟩ => by
  obtain ⟨p, S1, e1, e2⟩ := bind_ok e
  exact ⟨φ, r, S, p, S1, hv, hs, e1, fun φ1 H1 J x1 hs1 hi D hD => comp_core hj (hv.ext hs x1) hs1 hi hD e2 (q.of x1)⟩
end
end Wb

/-! W15: statements. -/
namespace Wb
open PySem PySem.Spec PyProof.Rows L2
section
variable {X : Cx} {K : PySem.W.Frag} {φ φ0 φ1 φ2 φ' : List Addr} {H H0 H1 H2 H' : Hp} {S S1 S' : Store} {d : D} {r : Env} {σ : L2.St} {pos p : Pos} {js own : List Nat} {D : Ends} {o : Out}
variable {ea eb : Env → Store → Res Wb.D} {ta : Env → Store → Res Bool} {sa sb : Env → Store → Res Out} {a b c : Expr} {st : Stmt} {sts : List Stmt}
theorem v_nil : PSs X [] (tSv X.K fun r s => .ok (.nx r) s) := pss_nil.imp fun D σ H ⟨φ, r, S, o, S', hv, hs, e, q⟩ => by
  cases e
  exact q φ H Ex.rfl' hs σ hv
theorem v_seq (h1 : PS X st (tSv X.K sa)) (h2 : PSs X sts (tSv X.K sb)) : PSs X (st :: sts) (tSv X.K fun r s => (sa r s).bind fun o s1 => match o with
    | .nx r1 => sb r1 s1
    | .rt d => .ok (.rt d) s1
    | .bk r1 => .ok (.bk r1) s1
    | .ct r1 => .ok (.ct r1) s1) := (pss_cons h1 h2).imp fun D σ H ⟨φ, r, S, o, S', hv, hs, e, q⟩ => by
  obtain ⟨o1, S1, e1, e⟩ := bind_ok e
  refine ⟨φ, r, S, o1, S1, hv, hs, e1, fun φ1 H1 x1 hs1 => ?_⟩
  cases o1 with
  | nx r1 => exact fun σ1 hv1 => ⟨φ1, r1, S1, o, S', hv1, hs1, e, fun φ2 H2 x2 => q φ2 H2 (x1.trans x2)⟩
  | rt d => cases e; exact q φ1 H1 x1 hs1
  | bk r1 => cases e; exact q φ1 H1 x1 hs1
  | ct r1 => cases e; exact q φ1 H1 x1 hs1
theorem v_pass : PS X (.Pass pos) (tSv X.K fun r s => .ok (.nx r) s) := ps_pass.imp fun D σ H ⟨φ, r, S, o, S', hv, hs, e, q⟩ => by
  cases e; exact q φ H Ex.rfl' hs σ hv
theorem v_doc {x : Str} {j : Nat} {p2 : Pos} : PS X (.Expr (.Constant (.str x) j p) p2) (tSv X.K fun r s => .ok (.nx r) s) := ps_doc.imp fun D σ H ⟨φ, r, S, o, S', hv, hs, e, q⟩ => by
  cases e; exact q φ H Ex.rfl' hs σ hv
theorem v_brk : PS X (.Break pos) (tSv X.K fun r s => .ok (.bk r) s) := ps_break.imp fun D σ H ⟨φ, r, S, o, S', hv, hs, e, q⟩ => by
  cases e; exact q φ H Ex.rfl' hs σ hv
theorem v_cnt : PS X (.Continue pos) (tSv X.K fun r s => .ok (.ct r) s) := ps_continue.imp fun D σ H ⟨φ, r, S, o, S', hv, hs, e, q⟩ => by
  cases e; exact q φ H Ex.rfl' hs σ hv
theorem v_retN : PS X (.Return none pos) (tSv X.K fun r s => .ok (.rt .non) s) := ps_retN.imp fun D σ H ⟨φ, r, S, o, S', hv, hs, e, q⟩ => by
  cases e; exact q φ H Ex.rfl' hs _ (by simp only [Rep])
theorem v_ret (ha : PE X a (tEv X.K ea)) : PS X (.Return (some a) pos) (tSv X.K fun r s => (ea r s).bind fun d s1 => .ok (.rt d) s1) := (ps_ret ha).imp fun D σ H ⟨φ, r, S, o, S', hv, hs, e, q⟩ => by
  obtain ⟨d, S1, e1, e⟩ := bind_ok e
  cases e
  exact ⟨φ, r, S, d, _, hv, hs, e1, fun φ1 v H1 x1 hs1 r1 => q φ1 H1 x1 hs1 v r1⟩
theorem v_expr (hs' : swapsWith a none pos.line X.env = pure false) (ha : PE X a (tEv X.K ea)) : PS X (.Expr a pos) (tSv X.K fun r s => (ea r s).bind fun _ s1 => .ok (.nx r) s1) := (ps_expr ha hs').imp fun D σ H ⟨φ, r, S, o, S', hv, hs, e, q⟩ => by
  obtain ⟨d, S1, e1, e⟩ := bind_ok e
  cases e
  exact ⟨φ, r, S, d, _, hv, hs, e1, fun φ1 v H1 x1 hs1 r1 => q φ1 H1 x1 hs1 σ (hv.ext hs x1)⟩
theorem v_if {x y : List Stmt} (hc : PT X c (tTv X.K ta)) (ha : PSs X x (tSv X.K sa)) (hb : PSs X y (tSv X.K sb)) : PS X (.If c x y pos) (tSv X.K fun r s => (ta r s).bind fun k s1 => if k then sa r s1 else sb r s1) := (ps_if hc ha hb).imp fun D σ H ⟨φ, r, S, o, S', hv, hs, e, q⟩ => by
  obtain ⟨k, S1, e1, e⟩ := bind_ok e
  refine ⟨φ, r, S, k, S1, hv, hs, e1, fun φ1 H1 x1 hs1 => ?_⟩
  cases k with
  | true => rw [if_pos rfl]; exact ⟨φ1, r, S1, o, S', hv.ext hs x1, hs1, e, fun φ2 H2 x2 => q φ2 H2 (x1.trans x2)⟩
  | false => rw [if_neg Bool.false_ne_true]; exact ⟨φ1, r, S1, o, S', hv.ext hs x1, hs1, e, fun φ2 H2 x2 => q φ2 H2 (x1.trans x2)⟩
variable {ga : Wb.D → Env → Store → Res Env}
theorem asg_imp {te : TE} {g : TG} (h1 : ∀ σ H Q, tEv K ea σ H Q → te σ H Q) (h2 : ∀ v σ H Q, tGv K js ga v σ H Q → g v σ H Q) : ∀ D σ H, tSv K (fun r s => (ea r s).bind fun d s1 => (ga d r s1).bind fun r2 s2 => .ok (.nx r2) s2) D σ H → tAsg te g D σ H := fun D σ H ⟨φ, r, S, o, S', hv, hs, e, q⟩ => by
  obtain ⟨d, S1, e1, e⟩ := bind_ok e
  obtain ⟨r2, S2, e2, e⟩ := bind_ok e
  cases e
  refine h1 σ H _ ⟨φ, r, S, d, S1, hv, hs, e1, fun φ1 v H1 x1 hs1 r1 => h2 v σ H1 _ ⟨φ1, r, S1, d, r2, _, hv.ext hs x1, hs1, r1, e2, fun φ2 σ2 H2 x2 hs2 hv2 _ => q φ2 H2 (x1.trans x2) hs2 σ2 hv2⟩⟩
theorem v_asg {tg : Expr} (hst : isStar tg = false) (hsw : swapsWith a (some tg) pos.line X.env = pure false) (hw : swappedStores [tg] a X.env = pure none) (ha : PE X a (tEv X.K ea)) (hg : PG X tg (tGv X.K js ga)) :
    PS X (.Assign [tg] a pos) (tSv X.K fun r s => (ea r s).bind fun d s1 => (ga d r s1).bind fun r2 s2 => .ok (.nx r2) s2) :=
  (ps_asg ha hg hsw hw (by rw [each_cons hst]; rfl)).imp (asg_imp (fun _ _ _ q => q) fun _ _ _ _ q => q)
theorem v_par {i j : Nat} {x y : Str} {px py pt : Pos} {kt k2 pt2} (hc : X.calm = true) (hN : X.N.Nodup) (hi : X.N[i]? = some x) (hj : X.N[j]? = some y) (hij : i ≠ j)
    (hx : X.env.scope.names.lookup x = some .local) (hy : X.env.scope.names.lookup y = some .local) (hst : isStar a = false) (hst2 : isStar b = false) (ha : PE X a (tEv X.K ea)) (hb : PE X b (tEv X.K eb))
    (hw : swappedStores [.Tuple [.Name x px, .Name y py] kt pt] (.Tuple [a, b] k2 pt2) X.env = pure (some [x, y])) :
    PS X (.Assign [.Tuple [.Name x px, .Name y py] kt pt] (.Tuple [a, b] k2 pt2) pos) (tSv X.K fun r s => (ea r s).bind fun x s1 => (eb r s1).bind fun y s2 => .ok (.nx ((r.set i (some x)).set j (some y))) s2) :=
  (ps_par hc hN hi hj hij hx hy (v_argcons hst ha (v_argcons hst2 hb v_argnil)) hw).imp fun D σ H ⟨φ, r, S, o, S', hv, hs, e, q⟩ => by
    obtain ⟨d1, S1, e1, e⟩ := bind_ok e
    obtain ⟨d2, S2, e2, e⟩ := bind_ok e
    cases e
    refine ⟨φ, r, S, [d1, d2], S', hv, hs, by simp only [e1, Res.bind_ok, e2], fun φ1 vs H1 x1 hs1 r1 => ?_⟩
    simp only [Reps] at r1
    obtain ⟨v, _, rfl, r1, w, _, rfl, r2, rfl⟩ := r1
    exact ⟨v, w, rfl, q φ1 H1 x1 hs1 _ (((hv.ext hs x1).set i r1).set j r2)⟩
theorem v_par3 {i j l : Nat} {x y z : Str} {px py pz pt : Pos} {kt k2 pt2} {c : Expr} {ec : Env → Store → Res Wb.D} (hc : X.calm = true) (hN : X.N.Nodup) (hi : X.N[i]? = some x) (hj : X.N[j]? = some y) (hl : X.N[l]? = some z) (hij : i ≠ j) (hil : i ≠ l) (hjl : j ≠ l)
    (hx : X.env.scope.names.lookup x = some .local) (hy : X.env.scope.names.lookup y = some .local) (hz : X.env.scope.names.lookup z = some .local) (hst : isStar a = false) (hst2 : isStar b = false) (hst3 : isStar c = false) (ha : PE X a (tEv X.K ea)) (hb : PE X b (tEv X.K eb)) (hc3 : PE X c (tEv X.K ec))
    (hw : swappedStores [.Tuple [.Name x px, .Name y py, .Name z pz] kt pt] (.Tuple [a, b, c] k2 pt2) X.env = pure (some [x, y, z])) :
    PS X (.Assign [.Tuple [.Name x px, .Name y py, .Name z pz] kt pt] (.Tuple [a, b, c] k2 pt2) pos) (tSv X.K fun r s => (ea r s).bind fun x s1 => (eb r s1).bind fun y s2 => (ec r s2).bind fun z s3 => .ok (.nx (((r.set i (some x)).set j (some y)).set l (some z))) s3) :=
  (ps_par3 hc hN hi hj hl hij hil hjl hx hy hz (v_argcons hst ha (v_argcons hst2 hb (v_argcons hst3 hc3 v_argnil))) hw).imp fun D σ H ⟨φ, r, S, o, S', hv, hs, e, q⟩ => by
    obtain ⟨d1, S1, e1, e⟩ := bind_ok e
    obtain ⟨d2, S2, e2, e⟩ := bind_ok e
    obtain ⟨d3, S3, e3, e⟩ := bind_ok e
    cases e
    refine ⟨φ, r, S, [d1, d2, d3], S', hv, hs, by simp only [e1, Res.bind_ok, e2, e3], fun φ1 vs H1 x1 hs1 r1 => ?_⟩
    simp only [Reps] at r1
    obtain ⟨v, _, rfl, r1, w, _, rfl, r2, u, _, rfl, r3, rfl⟩ := r1
    exact ⟨v, w, u, rfl, q φ1 H1 x1 hs1 _ ((((hv.ext hs x1).set i r1).set j r2).set l r3)⟩
/-! ### loops -/
def ForW (K : PySem.W.Frag) (φ0 : List Addr) (H0 : Hp) (body : Wb.D → Env → Store → Res Out) (p : List Wb.D × Option (Nat × List Wb.D)) (o : Out) (S' : Store) (i m : Nat) (σ : L2.St) (H : Hp) : Prop :=
  m = p.1.length - i ∧ i ≤ p.1.length ∧ ∃ φ2 r2 S2, Ex φ0 H0 φ2 H ∧ HS K φ2 H S2 ∧ VS K φ2 H r2 σ ∧ forGo body p.2 (p.1.drop i) r2 S2 = .ok o S'
theorem for_core {J : L2.It} {p : List Wb.D × Option (Nat × List Wb.D)} (hv : VS K φ0 H0 r σ) (hs : HS K φ0 H0 S) (hi : ItK K φ0 H0 p J)
    (e : forGo (fun d r2 s2 => (ga d r2 s2).bind fun r3 s3 => sb r3 s3) p.2 p.1 r S = .ok o S') (q : ∀ φ' H', Ex φ0 H0 φ' H' → HS K φ' H' S' → EndOk K φ' H' D o) :
    ∃ W : Nat → Nat → L2.St → Hp → Prop, (∃ m, W 0 m σ H0) ∧ ∀ i m σ H, W i m σ H →
      (J.stop i H ∧ D.nx σ H) ∨ (J.go i H ∧ ∃ N : L2.St → Hp → Prop, (∀ σ' H', N σ' H' → ∃ m', m' < m ∧ W (i + 1) m' σ' H') ∧ ∀ x H', J.yld i H x H' → tGv K js ga x σ H' fun σ2 H2 => tSv K sb { D with nx := N, ct := N, bk := D.nx } σ2 H2) := by
  refine ⟨ForW K φ0 H0 _ p o S', ⟨p.1.length, by simp, Nat.zero_le _, φ0, r, S, Ex.rfl', hs, hv, by simpa using e⟩, ?_⟩
  rintro i m σ H ⟨rfl, hi2, φ2, r2, S2, x2, hs2, hv2, e2⟩
  have st : still S2 p.2 = true := by
    by_cases h : still S2 p.2 = true
    · exact h
    · cases hd : p.1.drop i with
      | nil => rw [hd] at e2; unfold forGo at e2; rw [if_neg h] at e2; cases e2
      | cons => rw [hd] at e2; unfold forGo at e2; rw [if_neg h] at e2; cases e2
  obtain ⟨turn, stop⟩ := hi φ2 H S2 x2 hs2 st
  by_cases hlt : i < p.1.length
  · obtain ⟨go, yld⟩ := turn i p.1[i] (List.getElem?_eq_getElem hlt)
    refine .inr ⟨go, fun σ' H' => ∃ φ3 r3 S3, Ex φ0 H0 φ3 H' ∧ HS K φ3 H' S3 ∧ VS K φ3 H' r3 σ' ∧ forGo (fun d r2 s2 => (ga d r2 s2).bind fun r3 s3 => sb r3 s3) p.2 (p.1.drop (i + 1)) r3 S3 = .ok o S', fun σ' H' h => ⟨p.1.length - (i + 1), by omega, rfl, hlt, h⟩, fun x H' hy => ?_⟩
    obtain ⟨xy, hsy, ry⟩ := yld x H' hy
    rw [List.drop_eq_getElem_cons hlt] at e2
    unfold forGo at e2
    rw [if_pos st] at e2
    cases hg : ga p.1[i] r2 S2 with
    | exc x s => rw [hg] at e2; cases e2
    | bad => rw [hg] at e2; cases e2
    | ok r3 S3 =>
      simp only [hg, Res.bind_ok] at e2
      refine ⟨φ2, r2, S2, p.1[i], r3, S3, hv2.ext hs2 xy, hsy, ry, hg, fun φ3 σ3 H3 x3 hs3 hv3 _ => ?_⟩
      have xB := x2.trans (xy.trans x3)
      cases hb : sb r3 S3 with
      | exc x s => rw [hb] at e2; cases e2
      | bad => rw [hb] at e2; cases e2
      | ok ob S4 =>
        rw [hb] at e2
        refine ⟨φ3, r3, S3, ob, S4, hv3, hs3, hb, fun φ4 H4 x4 hs4 => ?_⟩
        cases ob with
        | nx r4 => exact fun σ4 hv4 => ⟨φ4, r4, S4, xB.trans x4, hs4, hv4, e2⟩
        | ct r4 => exact fun σ4 hv4 => ⟨φ4, r4, S4, xB.trans x4, hs4, hv4, e2⟩
        | bk r4 =>
          cases e2
          exact q φ4 H4 (xB.trans x4) hs4
        | rt d =>
          cases e2
          exact q φ4 H4 (xB.trans x4) hs4
  · have hi3 : i = p.1.length := by omega
    subst hi3
    refine .inl ⟨stop, ?_⟩
    rw [List.drop_length] at e2
    unfold forGo at e2
    rw [if_pos st] at e2
    cases e2
    exact q φ2 H x2 hs2 σ hv2
variable {it : Env → Store → Res (List Wb.D × Option (Nat × List Wb.D))}
theorem v_for {tg iter : Expr} {body : List Stmt} (hp : PassesOwn (model X.prog X.w) X.A X.env X.xe) (hc : X.calm = true) (hset : isSet iter = false) (hi : PI X tg iter (tIv X.K it)) (hg : PG X tg (tGv X.K js ga)) (hb : PSs X body (tSv X.K sb)) :
    PS X (.For tg iter body [] pos) (tSv X.K fun r s => (it r s).bind fun p s1 => forGo (fun d r2 s2 => (ga d r2 s2).bind fun r3 s3 => sb r3 s3) p.2 p.1 r s1) :=
  (ps_for hp hc hi hg hb (by intro x; cases iter <;> first | rfl | (simp [isSet] at hset))).imp fun D σ H ⟨φ, r, S, o, S', hv, hs, e, q⟩ => by
    obtain ⟨p, S1, e1, e⟩ := bind_ok e
    exact ⟨φ, r, S, p, S1, hv, hs, e1, fun φ1 H1 J x1 hs1 hi => for_core (hv.ext hs x1) hs1 hi e fun φ2 H2 x2 => q φ2 H2 (x1.trans x2)⟩
theorem v_whl {F : Nat} {body : List Stmt} (hp : PassesOwn (model X.prog X.w) X.A X.env X.xe) (hc : PT X c (tTv X.K ta)) (hb : PSs X body (tSv X.K sb)) :
    PS X (.While c body [] pos) (tSv X.K fun r s => whlGo ta sb F r s) :=
  (ps_while hp hc hb).imp fun D σ H ⟨φ, r, S, o, S', hv, hs, e, q⟩ => by
    refine ⟨fun m σ1 H1 => ∃ φ1 r1 S1, Ex φ H φ1 H1 ∧ HS X.K φ1 H1 S1 ∧ VS X.K φ1 H1 r1 σ1 ∧ whlGo ta sb m r1 S1 = .ok o S', ⟨F, φ, r, S, Ex.rfl', hs, hv, e⟩, ?_⟩
    rintro m σ1 H1 ⟨φ1, r1, S1, x1, hs1, hv1, e1⟩
    cases m with
    | zero => cases e1
    | succ m =>
      unfold whlGo at e1
      obtain ⟨k, S2, e2, e1⟩ := bind_ok e1
      refine ⟨φ1, r1, S1, k, S2, hv1, hs1, e2, fun φ2 H2 x2 hs2 => ?_⟩
      have hv2 := hv1.ext hs1 x2
      cases k with
      | false =>
        show D.nx σ1 H2
        cases e1
        exact q φ2 H2 (x1.trans x2) hs2 σ1 hv2
      | true =>
        simp only [if_true] at e1
        refine ⟨fun σ' H' => ∃ φ3 r3 S3, Ex φ H φ3 H' ∧ HS X.K φ3 H' S3 ∧ VS X.K φ3 H' r3 σ' ∧ whlGo ta sb m r3 S3 = .ok o S', fun σ' H' h => ⟨m, Nat.lt_succ_self m, h⟩, ?_⟩
        cases hb : sb r1 S2 with
        | exc x s => rw [hb] at e1; cases e1
        | bad => rw [hb] at e1; cases e1
        | ok ob S4 =>
          rw [hb] at e1
          refine ⟨φ2, r1, S2, ob, S4, hv2, hs2, hb, fun φ4 H4 x4 hs4 => ?_⟩
          cases ob with
          | nx r4 => exact fun σ4 hv4 => ⟨φ4, r4, S4, (x1.trans x2).trans x4, hs4, hv4, e1⟩
          | ct r4 => exact fun σ4 hv4 => ⟨φ4, r4, S4, (x1.trans x2).trans x4, hs4, hv4, e1⟩
          | bk r4 => cases e1; exact q φ4 H4 ((x1.trans x2).trans x4) hs4
          | rt d => cases e1; exact q φ4 H4 ((x1.trans x2).trans x4) hs4
end
end Wb

/-! W16: what is forgotten behind a call; a def's promise by plain data. -/
namespace Wb
open PySem PySem.Spec PyProof.Rows L2
section
variable {K : PySem.W.Frag} {φ φ0 φ1 φ2 φ' : List Addr} {H H0 H1 H2 H' : Hp} {S S1 S' : Store} {d : D} {v : V}
mutual
theorem Rep.valid : ∀ (d : D) (v : V), Rep K φ H d v → d.under φ.length = true
  | .non, _, _ => rfl
  | .bl _, _, _ => rfl
  | .int _, _, _ => rfl
  | .str _, _, _ => rfl
  | .tup ds, v, h => by
    simp only [Rep] at h
    obtain ⟨a, vs, _, _, h⟩ := h
    exact Reps.valid ds vs h
  | .fix ds, v, h => by
    simp only [Rep] at h
    obtain ⟨a, vs, _, _, h⟩ := h
    exact Reps.valid ds vs h
  | .ref n, v, h => by
    simp only [Rep] at h
    obtain ⟨a, _, h⟩ := h
    exact decide_eq_true (List.getElem?_eq_some_iff.mp h).1
theorem Reps.valid : ∀ (ds : List D) (vs : List V), Reps K φ H ds vs → D.unders φ.length ds = true
  | [], _, _ => rfl
  | d :: ds, vs, h => by
    simp only [Reps] at h
    obtain ⟨v, r, _, h1, h2⟩ := h
    unfold D.unders
    rw [Rep.valid d v h1, Reps.valid ds r h2]
    rfl
end
mutual
theorem Rep.less {ψ χ : List Addr} : ∀ (d : D) (v : V), d.under φ.length = true → Rep K (φ ++ ψ) H d v → Rep K (φ ++ χ) H d v
  | .non, v, _, h => by simpa only [Rep] using h
  | .bl _, v, _, h => by simpa only [Rep] using h
  | .int _, v, _, h => by simpa only [Rep] using h
  | .str _, v, _, h => by simpa only [Rep] using h
  | .tup ds, v, u, h => by
    simp only [Rep] at h ⊢
    obtain ⟨a, vs, e, h1, h⟩ := h
    exact ⟨a, vs, e, h1, Reps.less ds vs u h⟩
  | .fix ds, v, u, h => by
    simp only [Rep] at h ⊢
    obtain ⟨a, vs, e, h1, h⟩ := h
    exact ⟨a, vs, e, h1, Reps.less ds vs u h⟩
  | .ref n, v, u, h => by
    simp only [Rep] at h ⊢
    obtain ⟨a, e, h⟩ := h
    have hn : n < φ.length := of_decide_eq_true u
    exact ⟨a, e, by rw [List.getElem?_append_left hn] at h ⊢; exact h⟩
theorem Reps.less {ψ χ : List Addr} : ∀ (ds : List D) (vs : List V), D.unders φ.length ds = true → Reps K (φ ++ ψ) H ds vs → Reps K (φ ++ χ) H ds vs
  | [], vs, _, h => by simpa only [Reps] using h
  | d :: ds, vs, u, h => by
    simp only [Reps] at h ⊢
    obtain ⟨v, r, e, h1, h2⟩ := h
    unfold D.unders at u
    simp only [Bool.and_eq_true] at u
    exact ⟨v, r, e, Rep.less d v u.1 h1, Reps.less ds r u.2 h2⟩
end
theorem KRep.less {κ : Type} {ψ χ : List Addr} {kvs : List (κ × D)} {ws : List (κ × V)} (u : (kvs.all fun p => p.2.under φ.length) = true) (h : KRep K (φ ++ ψ) H kvs ws) : KRep K (φ ++ χ) H kvs ws := by
  unfold KRep at h ⊢
  induction h with
  | nil => exact .nil
  | cons h1 _ ih =>
    simp only [List.all_cons, Bool.and_eq_true] at u
    exact .cons ⟨h1.1, Rep.less _ _ u.1 h1.2⟩ (ih u.2)
theorem KRep.valid {κ : Type} {kvs : List (κ × D)} {ws : List (κ × V)} (h : KRep K φ H kvs ws) : (kvs.all fun p => p.2.under φ.length) = true := by
  unfold KRep at h
  induction h with
  | nil => rfl
  | cons h1 _ ih =>
    simp only [List.all_cons, Bool.and_eq_true]
    exact ⟨Rep.valid _ _ h1.2, ih⟩
theorem ORep.less {ψ χ : List Addr} {o : O} {a : Addr} (u : o.under φ.length = true) (h : ORep K (φ ++ ψ) H o a) : ORep K (φ ++ χ) H o a := by
  cases o with
  | lst ds => obtain ⟨ws, h1, h2⟩ := h; exact ⟨ws, h1, Reps.less _ _ u h2⟩
  | dik kvs => obtain ⟨ws, h1, h2⟩ := h; exact ⟨ws, h1, KRep.less u h2⟩
  | dit kvs => obtain ⟨ws, h1, h2⟩ := h; exact ⟨ws, h1, KRep.less u h2⟩
theorem ORep.valid {o : O} {a : Addr} (h : ORep K φ H o a) : o.under φ.length = true := by
  cases o with
  | lst ds => obtain ⟨ws, h1, h2⟩ := h; exact Reps.valid _ _ h2
  | dik kvs => obtain ⟨ws, h1, h2⟩ := h; exact KRep.valid h2
  | dit kvs => obtain ⟨ws, h1, h2⟩ := h; exact KRep.valid h2
theorem gc_sim {d0 : D} (hs : HS K φ H S) (x : Ex φ H φ' H') (hs' : HS K φ' H' S1) (r : Rep K φ' H' d0 v) (e : gc S d0 S1 = .ok d S') : ∃ φ2, Ex φ H φ2 H' ∧ HS K φ2 H' S' ∧ Rep K φ2 H' d v := by
  have all := x
  obtain ⟨⟨ψ, rfl, hψ⟩, xk, xl⟩ := x
  have len := hs'.len
  rw [List.length_append, hs.len] at len
  unfold gc at e
  split at e
  · next ho =>
    -- the old objects' own references are old
    have old : ∀ (n : Nat) (o : O), (S1.take S.length)[n]? = some o → o.under φ.length = true := fun n o hn => by
      unfold okOld at ho
      simp only [Bool.or_eq_true, decide_eq_true_eq, List.all_eq_true] at ho
      rcases ho with ho | ho
      · rw [ho] at hn
        obtain ⟨a, ha, hr⟩ := hs.at_ hn
        exact hr.valid
      · rw [hs.len]
        exact ho o (List.mem_of_getElem? hn)
    have base : ∀ (χ : List Addr) (n : Nat) (o : O) (a : Addr), (S1.take S.length)[n]? = some o → (φ ++ χ)[n]? = some a → ORep K (φ ++ χ) H' o a := fun χ n o a h1 h2 => by
      have hn : n < S.length := by
        have := (List.getElem?_eq_some_iff.mp h1).1
        rw [List.length_take] at this
        omega
      rw [List.getElem?_append_left (by rw [hs.len]; exact hn)] at h2
      refine ORep.less (ψ := ψ) (old n o h1) (hs'.ob n o a ?_ ?_)
      · rw [List.getElem?_take_of_lt hn] at h1; exact h1
      · rw [List.getElem?_append_left (by rw [hs.len]; exact hn)]; exact h2
    have cut : HS K φ H' (S1.take S.length) := ⟨by rw [List.length_take, hs.len]; omega, hs.nd, fun n o a h1 h2 => by simpa using base [] n o a h1 (by simpa using h2)⟩
    have exc : Ex φ H φ H' := ⟨⟨[], by simp, by simp⟩, xk, xl⟩
    split at e
    · next hu =>
      cases e
      refine ⟨φ, exc, cut, ?_⟩
      rw [← hs.len] at hu
      simpa using Rep.less (χ := []) d v hu r
    · next hu =>
      split at e
      · next n =>
        split at e
        · next o hn =>
          split at e
          · next ho2 =>
            cases e
            simp only [Rep] at r
            obtain ⟨a, rfl, ha⟩ := r
            have hge : S.length ≤ n := by
              by_cases h : n < S.length
              · exact absurd (decide_eq_true h) hu
              · omega
            rw [List.getElem?_append_right (by rw [hs.len]; exact hge)] at ha
            have hmem : a ∈ ψ := List.mem_of_getElem? ha
            have hna : a ∉ φ := fun h => (List.nodup_append.mp hs'.nd).2.2 a h a hmem rfl
            refine ⟨φ ++ [a], ⟨⟨[a], rfl, fun b hb => by rw [List.mem_singleton.mp hb]; exact hψ a hmem⟩, xk, xl⟩, ?_, ?_⟩
            · refine cut.reg hna ?_
              have ho3 : ORep K (φ ++ ψ) H' o a := hs'.ob n o a hn (by rw [List.getElem?_append_right (by rw [hs.len]; exact hge)]; exact ha)
              rw [← hs.len] at ho2
              simpa using ORep.less (χ := []) ho2 ho3
            · simp only [Rep]
              exact ⟨a, rfl, by rw [← hs.len]; simp⟩
          · cases e; exact ⟨_, all, hs', r⟩
        · cases e; exact ⟨_, all, hs', r⟩
      · cases e; exact ⟨_, all, hs', r⟩
  · cases e
    exact ⟨_, all, hs', r⟩
end
end Wb

/-! W17: a def's promise by plain data, its call. -/
namespace Wb
open PySem PySem.Spec PyProof.Rows L2
structure RoomG (k : Nat) (A : Around) : Prop where
  rm : Room k A
  gd : A.guards = some []
theorem RoomG.deeper {k : Nat} {A : Around} (r : RoomG (k + 1) A) (env : PySem.Env) : RoomG k (A.deeper env) := ⟨r.rm.deeper env, r.gd⟩
structure FnG (P : Program) (w : World) (K : PySem.W.Frag) (mg : Str → Option Value) (base : Heap) (k : Nat) (f : Addr) (fd : FuncData) (ps : List Str) (ev : List D → Store → Res D) : Prop where
  run : ∀ (A : Around) (outer : List PySem.Env) (s : Shared) (H : Hp) (args : Args) (us : List Value) (vs : List V) (φ : List Addr) (ds : List D) (S : Store) (d : D) (S' : Store) (Q : VK), RoomG k A → Env0 P w K mg base A outer s H → BindsTo s fd args (ps.zip us) →
    Vals vs us → HS K φ H S → Reps K φ H ds vs → ev ds S = .ok d S' → ds.length = ps.length → Nxt K φ H S' d Q → codeAny (model P w) A (.call (.ref f) args) (CR CX0 outer P w H s Q E0) s
section
variable {P : Program} {w : World} {K : PySem.W.Frag} {mg : Str → Option Value} {base : Heap} {k : Nat} {f : Addr} {fd : FuncData}
theorem fng_of {name qual : Str} {params : Arguments} {body : List Stmt} {scope : Scope} {dV kV doc pm cdv ct oc : Value} {an od : Option Addr} {osl : Array (Option Value)} {N ps : List Str} {eb : Env → Store → Res Out} {ev : List D → Store → Res D}
    (lk : K.lookup f = some ⟨oc, od, .func (PySem.W.fnOf name qual params body scope dV kV doc pm an cdv ct), osl⟩) (hcd : PySem.W.codeIn K cdv qual = true) (sc : FnScope N ps scope)
    (hbody : ∀ (A : Around) (outer : List PySem.Env) (s : Shared) (H : Hp), RoomG k (A.deeper (envOfC qual scope s.heap.objs.size f cdv)) → PSs (cxOf CX0 P w K mg base N qual scope f cdv A outer s H E0) body (tSv K eb))
    (hev : ∀ ds S d S', ds.length = ps.length → ev ds S = .ok d S' → ∃ o S1, eb (ds.map some ++ List.replicate (N.length - ds.length) none) S = .ok o S1 ∧ ((∃ d0, o = .rt d0 ∧ gc S d0 S1 = .ok d S') ∨ ∃ r, o = .nx r ∧ gc S .non S1 = .ok d S')) :
    FnG P w K mg base (k + 1) f (PySem.W.fnOf name qual params body scope dV kV doc pm an cdv ct) ps ev := by
  refine ⟨fun A outer s H args us vs φ ds S d S' Q room e0 hbind rel hs hr he hl q => ?_⟩
  have len : vs.length = ps.length := by rw [hr.len, hl]
  have kin : K.In s.heap := e0.mod.kin.keeps fun b o e => (e0.bs b o e).1
  have nolim : s.heap.NoLimit := e0.mod.nolimit.keeps fun b o e => (e0.bs b o e).1
  have kinds : ∀ y ∈ ps.zip us, scope.names.lookup y.1 = some .local ∨ (scope.names.lookup y.1 = some .cell ∧ ((cellsFrom (s.heap.objs.size + 1) scope.names []).lookup y.1).isSome = true) := by
    rintro ⟨n, v⟩ hy
    rcases sc.par n (List.of_mem_zip hy).1 with z | z
    · exact Or.inl z
    · exact Or.inr ⟨z, PySem.W.cellsFrom_some _ _ _ (Or.inl z)⟩
  refine codeAny_call_function room.rm.depth (kin _ _ lk) rfl sc.co sc.gen rfl (PySem.W.codeRec_of kin hcd) (hbind _ _ _ _ ?_)
  refine wpAny_newFunctionEnv_cells sc.kind kinds fun env henv s1 x => ?_
  subst henv
  refine ⟨nolim.keeps x.toInCall.keep, codeAny_func ?_⟩
  have I := inv_start (CX := CX0) (P := P) (w := w) (E := E0) (A := A) (outer := outer) (f := f) (cd := cdv) (qual := qual) sc room.rm.hd e0 len rel x
  obtain ⟨o, S1, e1, fin⟩ := hev ds S d S' hl he
  have body := hbody A outer s H (room.deeper _)
  have hv : VS K φ H (ds.map some ++ List.replicate (N.length - ds.length) none) (L2.start N vs) := by
    unfold L2.start
    rw [hr.len]
    refine ⟨by simp [hr.len], fun i x hx => ?_⟩
    have hi : i < ds.length := by
      by_cases hi : i < ds.length
      · exact hi
      · rw [List.getElem?_append_right (by simpa using hi), List.getElem?_replicate] at hx
        split at hx <;> cases hx
    rw [List.getElem?_append_left (by simpa using hi), List.getElem?_map] at hx
    obtain ⟨y, hy, e⟩ := Option.map_eq_some_iff.mp hx
    cases e
    obtain ⟨v, h1, h2⟩ := hr.at_ hy
    exact ⟨v, by rw [List.getElem?_append_left (by rw [List.length_map, hr.len]; exact hi), List.getElem?_map, h1]; rfl, h2⟩
  have run := body.run [] s1 (L2.start N vs) H { nx := fun _ H' => Q .non H', rt := Q } I ⟨φ, _, S, o, S1, hv, hs, e1, fun φ1 H1 x1 hs1 => by
    rcases fin with ⟨d0, rfl, g⟩ | ⟨r, rfl, g⟩
    · intro v hv0
      obtain ⟨φ2, x2, hs2, r2⟩ := gc_sim hs x1 hs1 hv0 g
      exact q φ2 v H1 x2 hs2 r2
    · intro σ _
      obtain ⟨φ2, x2, hs2, r2⟩ := gc_sim (d0 := .non) (v := .non) hs x1 hs1 (by simp only [Rep]) g
      exact q φ2 _ H1 x2 hs2 r2⟩
  refine wpAny_mono run (fun fl s' h => ?_) fun _ _ h => h
  have done : ∀ {σ' : L2.St} {H' : Hp} {v : V} {u : Value}, Inv (cxOf CX0 P w K mg base N qual scope f cdv A outer s H E0) [] σ' H' s' → RelV v u → Q v H' → CE outer P w H s Q u s' := fun {σ' H' v u} J rv z => ⟨v, H', J.os, J.bare, J.base, J.hok, rv, z⟩
  cases fl with
  | next => obtain ⟨σ', H', J, z⟩ := h; exact done (v := .non) (u := .none) J rfl z
  | ret u => obtain ⟨v, σ', H', J, rv, z⟩ := h; exact done J rv z
  | cont => obtain ⟨_, _, _, z⟩ := h; exact z.elim
  | brk => obtain ⟨_, _, _, z⟩ := h; exact z.elim
end
/-! ### a call -/
section
variable {X : Cx} {k : Nat} {f : Addr} {fd : FuncData} {ps : List Str} {ev : List D → Store → Res D} {x : Str} {p pos : Pos} {es : List Expr} {eas : Env → Store → Res (List D)}
theorem run_fng {pins : List (Addr × Obj)} {σ : L2.St} {H : Hp} {s : Shared} {Q : VK} {us : List Value} {vs : List V} {φ : List Addr} {ds : List D} {S S' : Store} {d : D} (F : FnG X.prog X.w X.K X.mg X.base k f fd ps ev) (room : RoomG k X.A) (hb : Binds X.K fd ps [])
    (I : Inv X pins σ H s) (rel : Vals vs us) (hs : HS X.K φ H S) (hr : Reps X.K φ H ds vs) (he : ev ds S = .ok d S') (hl : ds.length = ps.length) (q : Nxt X.K φ H S' d Q) : wpAny (model X.prog X.w) X.A (PySem.call (.ref f) us) (EP X pins σ Q) X.xe s := by
  have lenU : (us ++ []).length = ps.length := by rw [List.append_nil, ← rel.length, hr.len, hl]
  have b := hb s us I.kIn lenU
  rw [List.append_nil] at b
  refine wpAny_call (codeAny_mono (F.run X.A X.stack s H ⟨us, []⟩ us vs φ ds S d S' Q room I.env0 b rel hs hr he hl q) fun res s' h => ?_)
  match res, h with
  | .error _, h => exact h.elim
  | .ok (.ret u), h => exact I.after h
  | .ok .next, h => exact h.elim
  | .ok .brk, h => exact h.elim
  | .ok .cont, h => exact h.elim
def tCallG (K : PySem.W.Frag) (n : Nat) (ev : List D → Store → Res D) (t : TA) : TE := fun σ H Q => t σ H fun vs H1 => ∃ φ ds S d S', HS K φ H1 S ∧ Reps K φ H1 ds vs ∧ ev ds S = .ok d S' ∧ ds.length = n ∧ Nxt K φ H1 S' d Q
theorem pe_callG {t : TA} {e0 : Expr} (F : FnG X.prog X.w X.K X.mg X.base k f fd ps ev) (room : RoomG k X.A) (hb : Binds X.K fd ps []) (hg : Gl X x) (hm : X.mg x = some (.ref f)) (hk : PySem.W.keepIn X.K (.ref f) = true) (hdb : (x == ("__debug__" : Str)) = false)
    (hst : (e0 :: es).any isStar = false) (ha : PA X (e0 :: es) t) : PE X (.Call (.Name x p) (e0 :: es) [] pos) (tCallG X.K ps.length ev t) := by
  refine ⟨fun pins s σ H Q I h => wpAny_Call_Name_kw (ld_glob I hg hm ?_ hdb)⟩
  simp only [List.any_cons, Bool.or_eq_false_iff] at hst
  refine PySem.W.callWith_K (h₀ := X.base) I.ok.mod.kin hk (thn (ha.run pos pins s σ H _ I h) fun us s1 ⟨vs, H1, I1, rel, q⟩ => ⟨I1.kIn, ?_⟩) (star_cons hst.1) (star_none hst.2)
  obtain ⟨φ, ds, S, d, S', hs, hr, he, hl, q⟩ := q
  exact run_fng F room hb I1 rel hs hr he hl q
theorem v_call {e0 : Expr} (F : FnG X.prog X.w X.K X.mg X.base k f fd ps ev) (room : RoomG k X.A) (hb : Binds X.K fd ps []) (hg : Gl X x) (hm : X.mg x = some (.ref f)) (hk : PySem.W.keepIn X.K (.ref f) = true) (hdb : (x == ("__debug__" : Str)) = false)
    (hst : (e0 :: es).any isStar = false) (hlen : ∀ ds S d S', ev ds S = .ok d S' → ds.length = ps.length) (ha : PA X (e0 :: es) (tAv X.K eas)) : PE X (.Call (.Name x p) (e0 :: es) [] pos) (tEv X.K fun r s => (eas r s).bind fun ds s1 => ev ds s1) :=
  (pe_callG F room hb hg hm hk hdb hst ha).imp fun σ H Q ⟨φ, r, S, d, S', hv, hs, e, q⟩ => by
    obtain ⟨ds, S1, e1, e⟩ := bind_ok e
    exact ⟨φ, r, S, ds, S1, hv, hs, e1, fun φ1 vs H1 x1 hs1 r1 => ⟨φ1, ds, S1, d, S', hs1, r1, e, hlen _ _ _ _ e, q.of x1⟩⟩
theorem v_call0 (F : FnG X.prog X.w X.K X.mg X.base k f fd ps ev) (room : RoomG k X.A) (hb : Binds X.K fd ps []) (hg : Gl X x) (hm : X.mg x = some (.ref f)) (hk : PySem.W.keepIn X.K (.ref f) = true) (hdb : (x == ("__debug__" : Str)) = false)
    (hlen : ∀ ds S d S', ev ds S = .ok d S' → ds.length = ps.length) : PE X (.Call (.Name x p) [] [] pos) (tEv X.K fun r s => (Res.ok [] s).bind fun ds s1 => ev ds s1) :=
  ⟨fun pins s σ H Q I ⟨φ, r, S, d, S', hv, hs, e, q⟩ => wpAny_Call_Name_kw (ld_glob I hg hm (PySem.W.callWith_K0 I.kIn hk (run_fng (us := []) F room hb I .nil hs (by simp only [Reps]) e (hlen _ _ _ _ e) q)) hdb)⟩
end
end Wb

/-! W18: what is compiled is read as the code says. -/
namespace Wb
open PySem PySem.Spec PyProof.Rows L2
/-! ### the names' facts -/
theorem ixOf_at {N : List Str} {x : Str} {i : Nat} (h : ixOf N x = some i) : N[i]? = some x := by
  unfold ixOf at h
  obtain ⟨h1, h2, _⟩ := List.findIdx?_eq_some_iff_getElem.mp h
  rw [List.getElem?_eq_getElem h1, of_decide_eq_true h2]
section
variable {sc : Scope} {x : Str}
theorem vis_of (h : visB sc x = true) : Vis sc x := by
  unfold visB at h
  unfold Vis
  split at h <;> first | (cases h; done) | simp_all
theorem loc_of (h : locB sc x = true) : L2.Loc sc x := by
  unfold locB at h
  unfold L2.Loc
  split at h <;> first | (cases h; done) | simp_all
theorem isLoc_of (h : isLoc sc x = true) : sc.names.lookup x = some .local := by
  unfold isLoc at h
  split at h <;> first | (cases h; done) | assumption
theorem glB_of (h : glB sc x = true) : sc.names.lookup x = some .globalImplicit := by
  unfold glB at h
  split at h <;> first | (cases h; done) | assumption
end
theorem two_some {α β γ : Type} {f : α → β → γ} {a : Option α} {b : Option β} {c : γ} (h : two f a b = some c) : ∃ x y, a = some x ∧ b = some y ∧ c = f x y := by
  cases a <;> cases b <;> simp only [two] at h <;> cases h
  exact ⟨_, _, rfl, rfl, rfl⟩
theorem three_some {α β γ δ : Type} {f : α → β → γ → δ} {a : Option α} {b : Option β} {c : Option γ} {d : δ} (h : three f a b c = some d) : ∃ x y z, a = some x ∧ b = some y ∧ c = some z ∧ d = f x y z := by
  cases a <;> cases b <;> cases c <;> simp only [three] at h <;> cases h
  exact ⟨_, _, _, rfl, rfl, rfl, rfl⟩
theorem ifO_some {α : Type} {b : Bool} {a : Option α} {c : α} (h : ifO b a = some c) : b = true ∧ a = some c := by
  unfold ifO at h
  split at h
  · exact ⟨by assumption, h⟩
  · cases h
theorem kdO_some {k : Nat} {a : Option Ls} {c : Ls} (h : kdO k a = some c) : a = some c ∧ k ≤ c.kd := by
  unfold kdO at h
  split at h
  · split at h
    · cases h; exact ⟨rfl, by assumption⟩
    · cases h
  · cases h
theorem mapO_cons {α β : Type} {f : α → Option β} {x : α} {l : List α} {c : List β} (h : mapO f (x :: l) = some c) : ∃ a b, f x = some a ∧ mapO f l = some b ∧ c = a :: b := by
  unfold mapO at h
  split at h
  · next a b h1 h2 => cases h; exact ⟨a, b, h1, h2, rfl⟩
  · cases h
structure Cg (G : Gm) (cl : Nat → List D → Store → Res D) (X : Cx) : Prop where
  rm : Rm X
  nd : X.N.Nodup
  blt : ∀ x, G.blt.contains x = true → X.mg x = none
  fns : ∀ i x, G.fns[i]? = some x → ∃ k f fd ps, X.mg x = some (.ref f) ∧ PySem.W.keepIn X.K (.ref f) = true ∧ Binds X.K fd ps [] ∧ RoomG k X.A ∧ FnG X.prog X.w X.K X.mg X.base k f fd ps (cl i) ∧ ∀ ds S d S', cl i ds S = .ok d S' → ds.length = ps.length
  cons : ∀ x d, G.cons.lookup x = some d → ∃ v u, X.mg x = some u ∧ RelV v u ∧ ∀ φ H, Rep X.K φ H d v
section
variable {G : Gm} {cl : Nat → List D → Store → Res D} {X : Cx}
theorem Cg.blk (C : Cg G cl X) (s : Shared) (H : Hp) (scope : Scope) (cenv : PySem.Env) (fp : List Addr) : Cg G cl (X.blk s H scope cenv fp) := ⟨⟨C.rm.calm, C.rm.un, C.rm.gd⟩, C.nd, C.blt, C.fns, C.cons⟩
theorem gB_of {f : Str} (C : Cg G cl X) (h : gB G X.env.scope f = true) : Gl X f ∧ X.mg f = none := by
  unfold gB at h
  simp only [Bool.and_eq_true] at h
  exact ⟨glB_of h.1, C.blt f h.2⟩
theorem _root_.L2.PE.to {e : Expr} {f g : Env → Store → Res D} (h : PE X e (tEv X.K f)) (he : ∀ r s, g r s = f r s) : PE X e (tEv X.K g) := by
  have : g = f := funext fun r => funext fun s => he r s
  rw [this]; exact h
theorem _root_.L2.PE.toL {k : Nat} {e : Expr} {f g : Env → Store → Res (List D)} (h : PE X e (tLv X.K k f)) (he : ∀ r s, g r s = f r s) : PE X e (tLv X.K k g) := by
  have : g = f := funext fun r => funext fun s => he r s
  rw [this]; exact h
theorem _root_.L2.PT.to {e : Expr} {f g : Env → Store → Res Bool} (h : PT X e (tTv X.K f)) (he : ∀ r s, g r s = f r s) : PT X e (tTv X.K g) := by
  have : g = f := funext fun r => funext fun s => he r s
  rw [this]; exact h
theorem _root_.L2.PW.to {e : Expr} {f g : Env → Store → Res Bool} (h : PW X e (tTv X.K f)) (he : ∀ r s, g r s = f r s) : PW X e (tTv X.K g) := by
  have : g = f := funext fun r => funext fun s => he r s
  rw [this]; exact h
theorem _root_.L2.PA.to {e : List Expr} {f g : Env → Store → Res (List D)} (h : PA X e (tAv X.K f)) (he : ∀ r s, g r s = f r s) : PA X e (tAv X.K g) := by
  have : g = f := funext fun r => funext fun s => he r s
  rw [this]; exact h
theorem _root_.L2.PO.to {e : Option Expr} {f g : Env → Store → Res (Option Int)} (h : PO X e (tOv X.K f)) (he : ∀ r s, g r s = f r s) : PO X e (tOv X.K g) := by
  have : g = f := funext fun r => funext fun s => he r s
  rw [this]; exact h
theorem _root_.L2.PI.to {tg e : Expr} {f g : Env → Store → Res (List D × Option (Nat × List D))} (h : PI X tg e (tIv X.K f)) (he : ∀ r s, g r s = f r s) : PI X tg e (tIv X.K g) := by
  have : g = f := funext fun r => funext fun s => he r s
  rw [this]; exact h
theorem _root_.L2.PG.to {js : List Nat} {e : Expr} {f g : D → Env → Store → Res Env} (h : PG X e (tGv X.K js f)) (he : ∀ d r s, g d r s = f d r s) : PG X e (tGv X.K js g) := by
  have : g = f := funext fun d => funext fun r => funext fun s => he d r s
  rw [this]; exact h
theorem _root_.L2.PGs.to {js : List Nat} {e : List Expr} {f g : List D → Env → Store → Res Env} (h : PGs X e (tGsv X.K js f)) (he : ∀ d r s, g d r s = f d r s) : PGs X e (tGsv X.K js g) := by
  have : g = f := funext fun d => funext fun r => funext fun s => he d r s
  rw [this]; exact h
theorem _root_.L2.PS.to {e : Stmt} {f g : Env → Store → Res Out} (h : PS X e (tSv X.K f)) (he : ∀ r s, g r s = f r s) : PS X e (tSv X.K g) := by
  have : g = f := funext fun r => funext fun s => he r s
  rw [this]; exact h
theorem _root_.L2.PSs.to {e : List Stmt} {f g : Env → Store → Res Out} (h : PSs X e (tSv X.K f)) (he : ∀ r s, g r s = f r s) : PSs X e (tSv X.K g) := by
  have : g = f := funext fun r => funext fun s => he r s
  rw [this]; exact h
structure Good (G : Gm) (cl : Nat → List D → Store → Res D) (r : Rc) : Prop where
  e : ∀ (X : Cx) (e : Expr) (c : E), Cg G cl X → r.e X.N X.env.scope e = some c → PE X e (tEv X.K (evE cl c))
  c : ∀ (X : Cx) (e : Expr) (c : E), Cg G cl X → r.e X.N X.env.scope e = some c → PT X e (tTv X.K (evT cl c))
  w : ∀ (X : Cx) (o : BoolOp) (es : List Expr) (p : Pos) (c : E), Cg G cl X → r.e X.N X.env.scope (.BoolOp o es p) = some c → PW X (.BoolOp o es p) (tTv X.K (evT cl c))
  o : ∀ (X : Cx) (e : Option Expr) (c : Option E), Cg G cl X → r.o X.N X.env.scope e = some c → PO X e (tOv X.K (evO cl c))
  l : ∀ (X : Cx) (e : Expr) (c : Ls), Cg G cl X → r.l X.N X.env.scope e = some c → PE X e (tLv X.K c.kd (evL cl c))
  ll : ∀ (X : Cx) (e : Expr) (c : Ls), Cg G cl X → r.ll X.N X.env.scope e = some c → PE X e (tLv X.K c.kd (evL cl c))
  i : ∀ (X : Cx) (e : List Expr) (c : Option E), Cg G cl X → r.i X.N X.env.scope e = some c → PTs X e (tTv X.K (evC cl c))
  it : ∀ (X : Cx) (tg e : Expr) (c : It), Cg G cl X → r.it X.N X.env.scope tg e = some c → PI X tg e (tIv X.K (evIt cl c))
  t : ∀ (X : Cx) (fb : Str → Bool) (e : Expr) (c : T), Cg G cl X → (∀ x, fb x = true → X.fn x = true) → r.t X.N X.env.scope fb e = some c → PG X e (tGv X.K c.ids (asT cl c))
variable {r : Rc}
theorem args_of (g : Good G cl r) (C : Cg G cl X) : ∀ {es : List Expr} {cs : List E}, es.any isStar = false → mapO (r.e X.N X.env.scope) es = some cs → PA X es (tAv X.K (evEs cl cs))
  | [], cs, _, h => by cases h; exact v_argnil.to fun r s => by rw [evEs]
  | e :: es, cs, hst, h => by
    simp only [List.any_cons, Bool.or_eq_false_iff] at hst
    obtain ⟨a, b, h1, h2, rfl⟩ := mapO_cons h
    exact (v_argcons hst.1 (g.e X e a C h1) (args_of g C hst.2 h2)).to fun r s => by rw [evEs]
theorem tgs_of (g : Good G cl r) (C : Cg G cl X) {fb : Str → Bool} (hfb : ∀ x, fb x = true → X.fn x = true) : ∀ {es : List Expr} {cs : List T}, es.any isStar = false → mapO (r.t X.N X.env.scope fb) es = some cs → es.length = cs.length ∧ PGs X es (tGsv X.K (T.idss cs) (asTs cl cs))
  | [], cs, _, h => by cases h; exact ⟨rfl, v_gnil.to fun d r s => by rw [asTs]⟩
  | e :: es, cs, hst, h => by
    simp only [List.any_cons, Bool.or_eq_false_iff] at hst
    obtain ⟨a, b, h1, h2, rfl⟩ := mapO_cons h
    obtain ⟨hl, hp⟩ := tgs_of g C hfb hst.2 h2
    exact ⟨by simp [hl], (v_gcons hst.1 (g.t X fb e a C hfb h1) hp).to fun d r s => by cases d <;> rw [asTs]⟩
theorem prg_of (g : Good G cl r) (C : Cg G cl X) {e : Expr} {es : List Expr} {p : E × E} (h1 : bRange G X.env.scope e = some es) (h2 : rng2 r X.N X.env.scope es = some p) : PRg X e (tRv X.K (evE cl p.1) (evE cl p.2)) := by
  unfold bRange at h1
  split at h1
  · split at h1
    · next hc =>
      cases h1
      obtain ⟨rfl, hg, hst⟩ := hc
      obtain ⟨g1, g2⟩ := gB_of C hg
      unfold rng2 at h2
      split at h2
      · simp only [List.any_cons, Bool.or_eq_false_iff] at hst
        obtain ⟨y, hy, rfl⟩ := Option.map_eq_some_iff.mp h2
        have e0 : evE cl (.lit (.int 0)) = fun _ s => .ok (.int 0) s := funext fun r => funext fun s => by rw [evE]
        rw [e0]
        exact v_prg1 g1 g2 hst.1 (g.e X _ y C hy)
      · simp only [List.any_cons, Bool.or_eq_false_iff] at hst
        obtain ⟨x, y, hx, hy, rfl⟩ := two_some h2
        exact v_prg2 g1 g2 hst.1 hst.2.1 (g.e X _ x C hx) (g.e X _ y C hy)
      · cases h2
    · cases h1
  · cases h1
theorem pir_of (g : Good G cl r) (C : Cg G cl X) {tg e : Expr} {es : List Expr} {p : E × E} (h1 : bRange G X.env.scope e = some es) (h2 : rng2 r X.N X.env.scope es = some p) : PI X tg e (tIv X.K (evIt cl (.rng p.1 p.2))) := by
  unfold bRange at h1
  split at h1
  · split at h1
    · next hc =>
      cases h1
      obtain ⟨rfl, hg, hst⟩ := hc
      obtain ⟨g1, g2⟩ := gB_of C hg
      unfold rng2 at h2
      split at h2
      · simp only [List.any_cons, Bool.or_eq_false_iff] at hst
        obtain ⟨y, hy, rfl⟩ := Option.map_eq_some_iff.mp h2
        exact (v_itr1 g1 g2 hst.1 (g.e X _ y C hy)).to fun r s => by rw [evIt, evE] <;> rfl
      · simp only [List.any_cons, Bool.or_eq_false_iff] at hst
        obtain ⟨x, y, hx, hy, rfl⟩ := two_some h2
        exact (v_itr2 g1 g2 hst.1 hst.2.1 (g.e X _ x C hx) (g.e X _ y C hy)).to fun r s => by rw [evIt] <;> rfl
      · cases h2
    · cases h1
  · cases h1
end
end Wb

/-! W19: one step of the compiling, expressions. -/
namespace Wb
open PySem PySem.Spec PyProof.Rows L2
section
variable {G : Gm} {cl : Nat → List D → Store → Res D} {X : Cx} {r : Rc}
theorem s_name (C : Cg G cl X) {x : Str} {p : Pos} {c : E} (h : eName G X.N X.env.scope x = some c) : PE X (.Name x p) (tEv X.K (evE cl c)) := by
  unfold eName at h
  obtain ⟨hp, h⟩ := ifO_some h
  have hd : (x == ("__debug__" : Str)) = false := by
    unfold plainName at hp
    simp only [Bool.and_eq_true, Bool.not_eq_true'] at hp
    exact hp.1
  have hcd : (x == ("__classdict__" : Str)) = false := by
    unfold plainName at hp
    simp only [Bool.and_eq_true, Bool.not_eq_true'] at hp
    exact hp.2
  split at h
  · next hv =>
    obtain ⟨i, hi, rfl⟩ := Option.map_eq_some_iff.mp h
    exact ((pe_var (ixOf_at hi) (vis_of hv) hd hcd).imp v_var).to fun r s => by rw [evE]
  · obtain ⟨hg, h⟩ := ifO_some h
    obtain ⟨d, hd1, rfl⟩ := Option.map_eq_some_iff.mp h
    obtain ⟨v, u, h1, h2, h3⟩ := C.cons x d hd1
    exact ((pe_glob (glB_of hg) h1 h2 hd).imp (v_lit (fun _ _ _ q => q) h3)).to fun r s => by rw [evE]
theorem s_const {k : Const} {j : Nat} {p : Pos} {c : E} (h : eConst k = some c) : PE X (.Constant k j p) (tEv X.K (evE cl c)) := by
  cases k <;> simp only [eConst] at h <;> cases h
  · exact (pe_non.imp (v_lit (d := .non) (fun _ _ _ q => q) fun φ H => by simp only [Rep])).to fun r s => by rw [evE]
  · rename_i b
    exact (pe_bl.imp (v_lit (d := .bl b) (fun _ _ _ q => q) fun φ H => by simp only [Rep])).to fun r s => by rw [evE]
  · rename_i b
    exact (pe_int.imp (v_lit (d := .int b) (fun _ _ _ q => q) fun φ H => by simp only [Rep])).to fun r s => by rw [evE]
  · rename_i b
    exact (pe_str.imp (v_lit (d := .str b) (fun _ _ _ q => q) fun φ H => by simp only [Rep])).to fun r s => by rw [evE]
theorem s_newL (g : Good G cl r) (C : Cg G cl X) {e : Expr} {c : E} (h : (kdO 2 (r.l X.N X.env.scope e)).map E.newL = some c) : PE X e (tEv X.K (evE cl c)) := by
  obtain ⟨l, hl, rfl⟩ := Option.map_eq_some_iff.mp h
  obtain ⟨h1, h2⟩ := kdO_some hl
  have k2 : l.kd = 2 := by cases l <;> simp only [Ls.kd] at h2 ⊢ <;> omega
  have := g.l X e l C h1
  rw [k2] at this
  exact (v_newL this).to fun r s => by rw [evE]
theorem s_bool (g : Good G cl r) (C : Cg G cl X) {o : BoolOp} {es : List Expr} {p : Pos} {c : E} (h : eBool r X.N X.env.scope o es p = some c) :
    PE X (.BoolOp o es p) (tEv X.K (evE cl c)) ∧ PW X (.BoolOp o es p) (tTv X.K (evT cl c)) := by
  unfold eBool at h
  split at h
  · refine ⟨pe_one (g.e X _ c C h), ?_⟩
    cases o
    · exact pw_and1 (g.c X _ c C h)
    · exact pw_or1 (g.c X _ c C h)
  · obtain ⟨x, y, h1, h2, rfl⟩ := two_some h
    exact ⟨(v_and (g.e X _ x C h1) (g.e X _ y C h2)).to fun r s => by rw [evE] <;> rfl, (v_andT (g.c X _ x C h1) (g.w X _ _ _ y C h2)).to fun r s => by rw [evT]⟩
  · obtain ⟨x, y, h1, h2, rfl⟩ := two_some h
    exact ⟨(v_or (g.e X _ x C h1) (g.e X _ y C h2)).to fun r s => by rw [evE] <;> rfl, (v_orT (g.c X _ x C h1) (g.w X _ _ _ y C h2)).to fun r s => by rw [evT]⟩
  · cases h
theorem s_cmp1 (g : Good G cl r) (C : Cg G cl X) {o : CmpOp} {a b : Expr} {p : Pos} {c : E} (h : eCmp1 r X.N X.env.scope o a b = some c) :
    PE X (.Compare a [o] [b] p) (tEv X.K (evE cl c)) ∧ PT X (.Compare a [o] [b] p) (tTv X.K (evT cl c)) := by
  unfold eCmp1 at h
  obtain ⟨hset, h⟩ := ifO_some h
  have hset : isSet b = false := by simpa using hset
  split at h
  · next hc =>
    obtain ⟨x, y, h1, h2, rfl⟩ := two_some h
    obtain ⟨h1, k1⟩ := kdO_some h1
    obtain ⟨h2, k2⟩ := kdO_some h2
    have ho : o = .Eq ∨ o = .NotEq := by
      simp only [isEqs, Bool.and_eq_true, Bool.or_eq_true, decide_eq_true_eq] at hc
      exact hc.2
    obtain ⟨q1, q2⟩ := v_cpL C.rm ho hset k1 k2 (g.ll X _ x C h1) (g.ll X _ y C h2) (pos := p)
    exact ⟨q1.to fun r s => by rw [evE], q2.to fun r s => by rw [evT]⟩
  · obtain ⟨x, y, h1, h2, rfl⟩ := two_some h
    exact ⟨(v_cp C.rm o hset (g.e X _ x C h1) (g.e X _ y C h2)).to fun r s => by rw [evE], (v_cpT C.rm o hset (g.e X _ x C h1) (g.e X _ y C h2)).to fun r s => by rw [evT]⟩
theorem s_call1 (g : Good G cl r) (C : Cg G cl X) {f : Str} {a : Expr} {p pos : Pos} {c : E} (h : eCall1 G r X.N X.env.scope (.Call (.Name f p) [a] [] pos) f a = some c) (hdb : (f == ("__debug__" : Str)) = false) : PE X (.Call (.Name f p) [a] [] pos) (tEv X.K (evE cl c)) := by
  unfold eCall1 at h
  obtain ⟨hb, h⟩ := ifO_some h
  simp only [Bool.and_eq_true, Bool.not_eq_true'] at hb
  obtain ⟨hb, hst⟩ := hb
  obtain ⟨hg, hm⟩ := gB_of C hb
  split at h
  · exact s_newL g C h
  · split at h
    · next hf =>
      obtain ⟨l, h1, rfl⟩ := Option.map_eq_some_iff.mp h
      exact (v_con C.rm (.inr ⟨hf.1, rfl⟩) (.inr (.inl rfl)) hg hm hst (g.l X a l C h1)).to fun r s => by rw [evE]
    · split at h
      · next co hco =>
        split at h
        · next es hes =>
          obtain ⟨ht, h3⟩ := ifO_some h
          have ht : co = .tup := of_decide_eq_true ht
          subst ht
          have hf : f = ("tuple" : Str) := by
            unfold c1 at hco
            split at hco
            · assumption
            · split at hco
              · cases hco
              · split at hco
                · cases hco
                · split at hco <;> cases hco
          subst hf
          obtain ⟨q, h2, rfl⟩ := Option.map_eq_some_iff.mp h3
          exact (v_tupRng C.rm hg hm hst (prg_of g C hes h2)).to fun r s => by rw [evE] <;> rfl
        · obtain ⟨_, h⟩ := ifO_some h
          obtain ⟨l, h1, rfl⟩ := Option.map_eq_some_iff.mp h
          obtain ⟨h1, hk⟩ := kdO_some h1
          refine (v_con C.rm (.inl hco) ?_ hg hm hst (g.l X a l C h1)).to fun r s => by rw [evE]
          unfold c1 at hco
          split at hco
          · cases hco; exact .inl rfl
          · split at hco
            · cases hco; exact .inr (.inr ⟨hk, .inl rfl⟩)
            · split at hco
              · cases hco; exact .inr (.inr ⟨hk, .inr (.inl rfl)⟩)
              · split at hco
                · cases hco; exact .inr (.inr ⟨hk, .inr (.inr rfl)⟩)
                · cases hco
      · split at h
        · next bn hbn =>
          obtain ⟨x, h1, rfl⟩ := Option.map_eq_some_iff.mp h
          have key : ∃ u, bName bn = some u ∧ bootBuiltins f = some u ∧ f ≠ "__name__" := by
            unfold bOf1 at hbn
            split at hbn
            · next e => subst e; cases hbn; exact ⟨_, rfl, by decide +kernel, by decide⟩
            · split at hbn
              · next e => subst e; cases hbn; exact ⟨_, rfl, by decide +kernel, by decide⟩
              · split at hbn
                · next e => subst e; cases hbn; exact ⟨_, rfl, by decide +kernel, by decide⟩
                · split at hbn
                  · next e => subst e; cases hbn; exact ⟨_, rfl, by decide +kernel, by decide⟩
                  · split at hbn
                    · next e => subst e; cases hbn; exact ⟨_, rfl, by decide +kernel, by decide⟩
                    · cases hbn
          obtain ⟨u, k1, k2, k3⟩ := key
          exact (v_blt C.rm k1 hg hm k2 k3 hdb hst (g.e X a x C h1)).to fun r s => by rw [evE]; simp only [evEs]
        · cases h
theorem s_call (g : Good G cl r) (C : Cg G cl X) {f : Str} {args : List Expr} {p pos : Pos} {c : E} (h : eCall G r X.N X.env.scope (.Call (.Name f p) args [] pos) f args = some c) : PE X (.Call (.Name f p) args [] pos) (tEv X.K (evE cl c)) := by
  unfold eCall at h
  obtain ⟨hb, h⟩ := ifO_some h
  simp only [Bool.and_eq_true, Bool.not_eq_true'] at hb
  obtain ⟨⟨hg, hst⟩, hdb⟩ := hb
  have hgl : Gl X f := glB_of hg
  split at h
  · next k hk =>
    obtain ⟨cs, h1, rfl⟩ := Option.map_eq_some_iff.mp h
    obtain ⟨k2, fa, fd, ps, f1, f2, f3, f4, f5, f6⟩ := C.fns k f (ixOf_at hk)
    cases args with
    | nil =>
      cases h1
      exact (v_call0 f5 f4 f3 hgl f1 f2 hdb f6).to fun r s => by rw [evE, evEs]
    | cons a rest => exact (v_call f5 f4 f3 hgl f1 f2 hdb hst f6 (args_of g C hst h1)).to fun r s => by rw [evE]
  · split at h
    · exact s_call1 g C h hdb
    · obtain ⟨hb, h3⟩ := ifO_some h
      simp only [Bool.and_eq_true, decide_eq_true_eq] at hb
      obtain ⟨⟨hf, b1⟩, b2⟩ := hb
      clear h
      subst hf
      obtain ⟨g1, m1⟩ := gB_of C b1
      obtain ⟨g2, m2⟩ := gB_of C b2
      simp only [List.any_cons, Bool.or_eq_false_iff] at hst
      split at h3
      · next hk =>
        obtain ⟨x, h1, rfl⟩ := Option.map_eq_some_iff.mp h3
        exact (v_isi (f := ("isinstance" : Str)) g1 m1 g2 m2 hk hst.1 (g.e X _ x C h1)).to fun r s => by rw [evE]
      · cases h3
    · cases h
theorem s_meth1 (g : Good G cl r) (C : Cg G cl X) {o a : Expr} {m : Str} {ap cp : Pos} {c : E} (hl : (ap.endLine == cp.line) = true) (h : eMeth1 r X.N X.env.scope o m a = some c) : PE X (.Call (.Attribute o m ap) [a] [] cp) (tEv X.K (evE cl c)) := by
  unfold eMeth1 at h
  obtain ⟨hb, h3⟩ := ifO_some h
  clear h
  have h := h3
  clear h3
  simp only [Bool.and_eq_true, Bool.not_eq_true'] at hb
  obtain ⟨hca, hst⟩ := hb
  split at h
  · next e =>
    subst e
    obtain ⟨x, y, h1, h2, rfl⟩ := two_some h
    obtain ⟨h2, hk⟩ := kdO_some h2
    exact (v_ext hk hca hst hl (g.e X _ x C h1) (g.ll X _ y C h2)).to fun r s => by rw [evE] <;> rfl
  · split at h
    · next mm hm =>
      obtain ⟨x, y, h1, h2, rfl⟩ := two_some h
      have key : ∃ n, mName mm = some n ∧ ((m = ("append" : Str) ∧ mm = .append) ∨ (m = ("pop" : Str) ∧ mm = .popAt)) := by
        unfold methOf at hm
        split at hm
        · next e => cases hm; exact ⟨_, rfl, .inl ⟨e.1, rfl⟩⟩
        · split at hm
          · next e => exact absurd e.2 (by decide)
          · split at hm
            · next e => cases hm; exact ⟨_, rfl, .inr ⟨e.1, rfl⟩⟩
            · cases hm
      obtain ⟨n, k1, k2⟩ := key
      exact (v_meth1 k1 k2 hca hst hl (g.e X _ x C h1) (g.e X _ y C h2)).to fun r s => by rw [evE]; simp only [evEs] <;> rfl
    · cases h
theorem pairs_of (g : Good G cl r) (C : Cg G cl X) {p : Pos} : ∀ {ks : List (Option Expr)} {vs : List Expr} {xs : List Str} {ys : List E}, mapO strKey ks = some xs → mapO (r.e X.N X.env.scope) vs = some ys → xs.length = ys.length → PPs X p ks vs (trsOf X.K cl (xs.zip ys)) ∧ ks.length = xs.length ∧ vs.length = ys.length ∧ ks.all (·.isSome) = true
  | [], [], xs, ys, h1, h2, _ => by cases h1; cases h2; exact ⟨pps_nil, rfl, rfl, rfl⟩
  | [], v :: vs, xs, ys, h1, h2, hl => by
    cases h1
    obtain ⟨a, b, _, _, rfl⟩ := mapO_cons h2
    simp at hl
  | k :: ks, [], xs, ys, h1, h2, hl => by
    cases h2
    obtain ⟨a, b, _, _, rfl⟩ := mapO_cons h1
    simp at hl
  | k :: ks, v :: vs, xs, ys, h1, h2, hl => by
    obtain ⟨x, xs, hx, hxs, rfl⟩ := mapO_cons h1
    obtain ⟨y, ys, hy, hys, rfl⟩ := mapO_cons h2
    obtain ⟨q1, q2, q3, q4⟩ := pairs_of g C (p := p) hxs hys (by simpa using hl)
    unfold strKey at hx
    split at hx
    · cases hx
      exact ⟨pps_cons pe_str (g.e X _ y C hy) q1, by simp [q2], by simp [q3], by simp [q4]⟩
    · cases hx
theorem s_dict (g : Good G cl r) (C : Cg G cl X) {ks : List (Option Expr)} {vs : List Expr} {p : Pos} {c : E} (h : eDict r X.N X.env.scope ks vs = some c) : PE X (.Dict ks vs p) (tEv X.K (evE cl c)) := by
  unfold eDict at h
  split at h
  · split at h
    · cases h; exact v_newD.to fun r s => by rw [evE]
    · cases h
  · next k ks =>
    split at h
    · next xs ys hx hy =>
      obtain ⟨hl, h⟩ := ifO_some h
      simp only [Bool.and_eq_true, decide_eq_true_eq] at hl
      cases h
      obtain ⟨q1, q2, q3, q4⟩ := pairs_of g C (p := p) hx hy hl.1
      exact (v_dic q1 q4 (by rw [q2, q3, hl.1]) (by simp) (by rw [q2]; exact hl.2)).to fun r s => by rw [evE]
    · cases h
end
end Wb

/-! W20: one step of the compiling, whole. -/
namespace Wb
open PySem PySem.Spec PyProof.Rows L2
theorem res_bind3 {α β γ : Type} (m : Res α) (f : α → Store → Res β) (g : β → Store → Res γ) : (m.bind f).bind g = m.bind fun a s => (f a s).bind g := by cases m <;> rfl
theorem opt_bind {α β : Type} (s : Store) (a : Option α) (f : α → Store → Option β) : ((Res.opt s a).bind fun d s1 => Res.opt s1 (f d s1)) = Res.opt s (a.bind fun d => f d s) := by cases a <;> rfl
theorem opt_bl (s : Store) (o : Option Bool) : ((o.map D.bl).bind fun d => truthD s d) = o := by cases o <;> rfl
section
variable {G : Gm} {cl : Nat → List D → Store → Res D} {X : Cx} {r : Rc}
theorem evT_le {c : E} {rr : Env} {s s' : Store} {b : Bool} (hp : plainC c = true) (e : evT cl c rr s = .ok b s') : ((evE cl c rr s).bind fun d s1 => Res.opt s1 (truthD s1 d)) = .ok b s' := by
  cases c <;> simp only [plainC] at hp <;> try (cases hp; done)
  all_goals simp only [evT] at e
  all_goals try (cases e; done)
  all_goals simp only [evE]
  all_goals try simp only [res_bind3, opt_bind, Res.bind_ok]
  all_goals try exact e
  simp only [opt_bl]
  exact e
theorem pt_gen {e : Expr} {c : E} (hp : plainC c = true) (h : PE X e (tEv X.K (evE cl c))) (he : ∀ whole, isTrue e X.env whole = (do let v ← whole; standAt e.pos; holding [v] (truthy v))) : PT X e (tTv X.K (evT cl c)) :=
  (v_truth h he).imp fun σ H Q ⟨φ, r, S, b, S', hv, hs, e, q⟩ => ⟨φ, r, S, b, S', hv, hs, evT_le hp e, q⟩
theorem s_e0 (g : Good G cl r) (C : Cg G cl X) {e : Expr} {c : E} (h : stepE0 G r X.N X.env.scope e = some c) : PE X e (tEv X.K (evE cl c)) := by
  unfold stepE0 at h
  split at h
  · exact s_name C h
  · exact s_const h
  · obtain ⟨hst, h⟩ := ifO_some h
    obtain ⟨cs, h1, rfl⟩ := Option.map_eq_some_iff.mp h
    exact (v_tup (args_of g C (by simpa using hst) h1)).to fun r s => by rw [evE]
  · split at h
    · exact s_newL g C h
    · split at h
      · next ho =>
        obtain ⟨x, y, h1, h2, rfl⟩ := two_some h
        exact (v_op ho (g.e X _ x C h1) (g.e X _ y C h2)).to fun r s => by rw [evE] <;> rfl
      · cases h
  · obtain ⟨x, h1, rfl⟩ := Option.map_eq_some_iff.mp h
    exact (v_not (g.e X _ x C h1)).to fun r s => by rw [evE]
  · obtain ⟨x, h1, rfl⟩ := Option.map_eq_some_iff.mp h
    exact (v_neg (g.e X _ x C h1)).to fun r s => by rw [evE] <;> rfl
  · exact (s_bool g C h).1
  · exact (s_cmp1 g C h).1
  · obtain ⟨hs, h⟩ := ifO_some h
    simp only [Bool.and_eq_true, Bool.not_eq_true'] at hs
    obtain ⟨x, y, z, h1, h2, h3, rfl⟩ := three_some h
    exact (v_chain C.rm _ _ hs.1 hs.2 (g.e X _ x C h1) (g.e X _ y C h2) (g.e X _ z C h3)).to fun r s => by rw [evE] <;> rfl
  · obtain ⟨x, y, z, h1, h2, h3, rfl⟩ := three_some h
    exact (v_ite (g.c X _ x C h1) (g.e X _ y C h2) (g.e X _ z C h3)).to fun r s => by rw [evE]
  · obtain ⟨x, y, z, h1, h2, h3, rfl⟩ := three_some h
    exact (v_sl (g.e X _ x C h1) (g.o X _ y C h2) (g.o X _ z C h3)).to fun r s => by rw [evE] <;> rfl
  · obtain ⟨hs, h⟩ := ifO_some h
    obtain ⟨x, y, h1, h2, rfl⟩ := two_some h
    exact (v_ix C.rm (by simpa using hs) (g.e X _ x C h1) (g.e X _ y C h2)).to fun r s => by rw [evE]
  · exact s_newL g C h
  · exact s_newL g C h
  · exact s_dict g C h
  · exact s_call g C h
  · obtain ⟨hl, h⟩ := ifO_some h
    exact s_meth1 g C hl h
  · obtain ⟨hl, h⟩ := ifO_some h
    simp only [Bool.and_eq_true, Bool.not_eq_true', decide_eq_true_eq] at hl
    obtain ⟨⟨hl, hca⟩, hm⟩ := hl
    obtain ⟨x, h1, rfl⟩ := Option.map_eq_some_iff.mp h
    rw [hm]
    exact (v_meth0 hca hl (g.e X _ x C h1)).to fun r s => by rw [evE]; simp only [evEs] <;> rfl
  · cases h
theorem stepE_some {N : List Str} {sc : Scope} {e : Expr} {c : E} (h : stepE G r N sc e = some c) : stepE0 G r N sc e = some c ∧ (genE e = true → plainC c = true) := by
  unfold stepE at h
  split at h
  · next c' h1 =>
    split at h
    · cases h
    · next hn =>
      cases h
      refine ⟨h1, fun hg => ?_⟩
      rw [hg] at hn
      simpa using hn
  · cases h
theorem s_c (g : Good G cl r) (C : Cg G cl X) {e : Expr} {c : E} (h : stepE G r X.N X.env.scope e = some c) : PT X e (tTv X.K (evT cl c)) := by
  obtain ⟨h0, hp⟩ := stepE_some h
  have hE := s_e0 g C h0
  clear h
  cases e
  case UnaryOp op a p =>
    cases op
    case Not =>
      unfold stepE0 at h0
      obtain ⟨x, h1, rfl⟩ := Option.map_eq_some_iff.mp h0
      exact (v_notT (g.c X _ x C h1)).to fun r s => by rw [evT]
    all_goals exact pt_gen (hp rfl) hE (fun _ => rfl)
  case BoolOp op es p => exact ((s_bool g C h0).2).pt
  case IfExp a b d p =>
    unfold stepE0 at h0
    obtain ⟨x, y, z, h1, h2, h3, rfl⟩ := three_some h0
    exact ⟨fun pins s σ H Q I ⟨φ, r, S, b, S', hv, hs, e, q⟩ => by simp only [evT] at e; cases e⟩
  case Compare a ops bs p =>
    unfold stepE0 at h0
    split at h0 <;> first | (cases h0; done) | skip
    all_goals first | (rename_i heq; cases heq; done) | skip
    · rename_i heq
      cases heq
      exact (s_cmp1 g C h0).2
    · rename_i heq
      cases heq
      obtain ⟨hs, h⟩ := ifO_some h0
      simp only [Bool.and_eq_true, Bool.not_eq_true'] at hs
      obtain ⟨x, y, z, h1, h2, h3, rfl⟩ := three_some h
      exact (v_chainT C.rm _ _ hs.1 hs.2 (g.e X _ x C h1) (g.e X _ y C h2) (g.e X _ z C h3)).to fun r s => by rw [evT] <;> rfl
  all_goals exact pt_gen (hp rfl) hE (fun _ => rfl)
end
end Wb

/-! W21: lists, walks, targets; all levels. -/
namespace Wb
open PySem PySem.Spec PyProof.Rows L2
section
variable {G : Gm} {cl : Nat → List D → Store → Res D} {X : Cx} {r : Rc}
theorem s_comp (g : Good G cl r) (C : Cg G cl X) {elt tg iter : Expr} {ifs : List Expr} {scope : Scope} {p : Pos} {c : Ls} (h : lComp r X.N X.env.scope elt tg iter ifs scope = some c) : PE X (.ListComp elt [⟨tg, iter, ifs, 0⟩] scope p) (tLv X.K c.kd (evL cl c)) := by
  unfold lComp at h
  obtain ⟨hb, h3⟩ := ifO_some h
  clear h
  simp only [Bool.and_eq_true, Bool.not_eq_true'] at hb
  obtain ⟨hblk, hset⟩ := hb
  split at h3
  · next t i cc x ht hi hc hx =>
    obtain ⟨hall, h4⟩ := ifO_some h3
    cases h4
    have hj : ∀ j ∈ t.ids, j ∈ (ownOf X.N scope).map (·.2) := fun j hj => by
      have := List.all_eq_true.mp hall j hj
      exact List.contains_iff_mem.mp this
    have main := pe_lc (pos := p) (te := tEv X.K (evE cl x)) (tt := tTv X.K (evC cl cc)) (g := tGv X.K t.ids (asT cl t)) (wi := tIv X.K (evIt cl i)) C.rm.calm C.nd (g.it X tg iter i C hi) (blkOk_by hblk)
      (fun s H D cc2 fp => g.t (X.blk s H scope (compEnvC scope cc2 D X.env) fp) _ tg t (C.blk ..) (fun _ z => z) ht)
      (fun s H D cc2 fp => g.i (X.blk s H scope (compEnvC scope cc2 D X.env) fp) ifs cc (C.blk ..) hc)
      (fun s H D cc2 fp => g.e (X.blk s H scope (compEnvC scope cc2 D X.env) fp) elt x (C.blk ..) hx)
      (by intro y; cases iter <;> first | rfl | (simp [isSet] at hset))
    exact (main.imp (comp_imp hj)).toL fun r s => by rw [evL] <;> rfl
  · cases h3
theorem s_l (g : Good G cl r) (C : Cg G cl X) {e : Expr} {c : Ls} (h : stepL G r X.N X.env.scope e = some c) : PE X e (tLv X.K c.kd (evL cl c)) := by
  have asOf : ∀ {e : Expr} {c : Ls}, (r.e X.N X.env.scope e).map Ls.of = some c → PE X e (tLv X.K c.kd (evL cl c)) := fun {e c} h => by
    obtain ⟨x, h1, rfl⟩ := Option.map_eq_some_iff.mp h
    exact (v_of (g.e X _ x C h1)).toL fun r s => by rw [evL]
  unfold stepL at h
  split at h
  · exact s_comp g C h
  · obtain ⟨hst, h⟩ := ifO_some h
    obtain ⟨cs, h1, rfl⟩ := Option.map_eq_some_iff.mp h
    exact (v_disp (args_of g C (by simpa using hst) h1)).toL fun r s => by rw [evL]
  · split at h
    · obtain ⟨x, y, h1, h2, rfl⟩ := two_some h
      obtain ⟨h1, k1⟩ := kdO_some h1
      obtain ⟨h2, k2⟩ := kdO_some h2
      exact (v_cat k1 k2 (g.ll X _ x C h1) (g.ll X _ y C h2)).toL fun r s => by rw [evL]
    · exact asOf h
  · split at h
    · obtain ⟨x, y, h1, h2, rfl⟩ := two_some h
      obtain ⟨h1, k1⟩ := kdO_some h1
      exact (v_rep k1 (g.ll X _ x C h1) (g.e X _ y C h2)).toL fun r s => by rw [evL] <;> rfl
    · exact asOf h
  · next f p a pos =>
    unfold lCall at h
    split at h
    · next hf =>
      subst hf
      obtain ⟨hb, h3⟩ := ifO_some h
      clear h
      simp only [Bool.and_eq_true, Bool.not_eq_true'] at hb
      obtain ⟨hg, hm⟩ := gB_of C hb.1
      split at h3
      · next es hes =>
        obtain ⟨q, h2, rfl⟩ := Option.map_eq_some_iff.mp h3
        exact (v_rngL C.rm hg hm hb.2 (prg_of g C hes h2)).toL fun r s => by rw [evL] <;> rfl
      · obtain ⟨_, h4⟩ := ifO_some h3
        obtain ⟨l, h1, rfl⟩ := Option.map_eq_some_iff.mp h4
        exact (v_list C.rm hg hm hb.2 (g.l X _ l C h1)).toL fun r s => by rw [evL]
    · split at h
      · next hf =>
        subst hf
        obtain ⟨hb, h3⟩ := ifO_some h
        clear h
        simp only [Bool.and_eq_true, Bool.not_eq_true'] at hb
        obtain ⟨hg, hm⟩ := gB_of C hb.1
        split at h3
        · next x hx =>
          obtain ⟨l, h1, rfl⟩ := Option.map_eq_some_iff.mp h3
          obtain ⟨h1, k1⟩ := kdO_some h1
          unfold bSet at hx
          split at hx
          · split at hx
            · next hc =>
              cases hx
              obtain ⟨rfl, hgs, hst2⟩ := hc
              obtain ⟨hg2, hm2⟩ := gB_of C hgs
              exact (v_sortedSet C.rm k1 hg hm hg2 hm2 hst2 (g.ll X _ l C h1)).toL fun r s => by rw [evL]
            · cases hx
          · cases hx
        · obtain ⟨l, h1, rfl⟩ := Option.map_eq_some_iff.mp h3
          obtain ⟨h1, k1⟩ := kdO_some h1
          exact (v_sorted C.rm k1 hg hm hb.2 (g.ll X _ l C h1)).toL fun r s => by rw [evL]
      · exact asOf h
  · obtain ⟨x, y, z, h1, h2, h3, rfl⟩ := three_some h
    exact (v_slL (g.e X _ x C h1) (g.o X _ y C h2) (g.o X _ z C h3)).toL fun r s => by rw [evL]
  · exact asOf h
theorem good_step (g : Good G cl r) : Good G cl ⟨stepE G r, stepO r, stepL G r, stepLl r, stepIf r, stepIt G r, stepT r⟩ where
  e := fun X e c C h => s_e0 g C (stepE_some h).1
  c := fun X e c C h => s_c g C h
  w := fun X o es p c C h => (s_bool g C (stepE_some h).1).2
  o := fun X e c C h => by
    have h : stepO r X.N X.env.scope e = some c := h
    unfold stepO at h
    split at h
    · cases h; exact v_onone.to fun r s => by rw [evO]
    · obtain ⟨x, h1, rfl⟩ := Option.map_eq_some_iff.mp h
      exact (v_osome (g.e X _ x C h1)).to fun r s => by rw [evO] <;> rfl
  l := fun X e c C h => s_l g C h
  ll := fun X e c C h => by
    have h : stepLl r X.N X.env.scope e = some c := h
    unfold stepLl at h
    split at h
    · exact g.l X e c C h
    · obtain ⟨x, h1, rfl⟩ := Option.map_eq_some_iff.mp h
      exact (v_ofl (g.e X _ x C h1)).toL fun r s => by rw [evL]
  i := fun X e c C h => by
    have h : stepIf r X.N X.env.scope e = some c := h
    unfold stepIf at h
    split at h
    · cases h
      refine ⟨fun pins s σ H Q I q => ?_⟩
      obtain ⟨φ, rr, S, b, S', hv, hs, e, q⟩ := q
      rw [evC] at e
      cases e
      exact pts_nil.run pins s σ H Q I (q φ H Ex.rfl' hs)
    · obtain ⟨x, h1, rfl⟩ := Option.map_eq_some_iff.mp h
      refine pts_one ((g.c X _ x C h1).to fun r s => by rw [evC])
    · cases h
  it := fun X tg e c C h => by
    have h : stepIt G r X.N X.env.scope tg e = some c := h
    unfold stepIt at h
    obtain ⟨_, h3⟩ := ifO_some h
    clear h
    split at h3
    · next es hes =>
      obtain ⟨q, h2, rfl⟩ := Option.map_eq_some_iff.mp h3
      exact pir_of g C hes h2
    · split at h3
      · split at h3
        · next q hq =>
          obtain ⟨ht, h5⟩ := ifO_some h3
          obtain ⟨x, y, h1, h2, rfl⟩ := two_some h5
          unfold bZip at hq
          split at hq
          · split at hq
            · next hc =>
              cases hq
              obtain ⟨rfl, hg, s1, s2⟩ := hc
              obtain ⟨g1, g2⟩ := gB_of C hg
              cases tg <;> first | (simp [isTup] at ht; done) | skip
              exact (v_itz g1 g2 s1 s2 (g.e X _ x C h1) (g.e X _ y C h2)).to fun r s => by rw [evIt] <;> rfl
            · cases hq
          · cases hq
        · cases h3
      obtain ⟨_, h4⟩ := ifO_some h3
      split at h4
      · obtain ⟨l, hl, rfl⟩ := Option.map_eq_some_iff.mp h4
        obtain ⟨h1, h2⟩ := kdO_some hl
        have k2 : l.kd = 2 := by cases l <;> simp only [Ls.kd] at h2 ⊢ <;> omega
        have hl := g.l X e l C h1
        rw [k2] at hl
        exact (v_itL hl).to fun r s => by rw [evIt]
      · obtain ⟨x, h1, rfl⟩ := Option.map_eq_some_iff.mp h4
        exact (v_it (g.e X _ x C h1)).to fun r s => by rw [evIt] <;> rfl
  t := fun X fb e c C hfb h => by
    have h : stepT r X.N X.env.scope fb e = some c := h
    unfold stepT at h
    split at h
    · obtain ⟨hl, h3⟩ := ifO_some h
      obtain ⟨i, hi, rfl⟩ := Option.map_eq_some_iff.mp h3
      simp only [Bool.or_eq_true, Bool.and_eq_true] at hl
      refine (v_gname C.nd (ixOf_at hi) ?_ ?_).to fun d r s => by rw [asT]
      · rcases hl with z | z
        · exact .inl (isLoc_of z)
        · exact loc_of z.1
      · rcases hl with z | z
        · exact .inr (isLoc_of z)
        · exact .inl (hfb _ z.2)
    · obtain ⟨hst, h3⟩ := ifO_some h
      obtain ⟨cs, h1, rfl⟩ := Option.map_eq_some_iff.mp h3
      have hst := by simpa using hst
      obtain ⟨hl, hp⟩ := tgs_of g C hfb (by simpa using hst) h1
      exact (v_gtup C.rm.calm (by simpa using hst) hl hp).to fun d r s => by cases d <;> simp [asT]
    · obtain ⟨hs, h3⟩ := ifO_some h
      obtain ⟨x, y, h1, h2, rfl⟩ := two_some h3
      exact (v_gsub C.rm (by simpa using hs) (g.e X _ x C h1) (g.e X _ y C h2)).to fun d r s => by rw [asT] <;> rfl
    · cases h
theorem good_all : ∀ n, Good G cl (rc G n)
  | 0 => { e := fun _ _ _ _ h => (nomatch h), c := fun _ _ _ _ h => (nomatch h), w := fun _ _ _ _ _ _ h => (nomatch h), o := fun _ _ _ _ h => (nomatch h), l := fun _ _ _ _ h => (nomatch h), ll := fun _ _ _ _ h => (nomatch h), i := fun _ _ _ _ h => (nomatch h), it := fun _ _ _ _ _ h => (nomatch h), t := fun _ _ _ _ _ _ h => (nomatch h) }
  | n + 1 => good_step (good_all n)
end
end Wb

/-! W22: compiled statements are read as the code says. -/
namespace Wb
open PySem PySem.Spec PyProof.Rows L2
section
variable {G : Gm} {cl : Nat → List D → Store → Res D} {X : Cx} {r : Rc}
theorem newL_imp {K : PySem.W.Frag} {el : Env → Store → Res (List D)} : ∀ σ H Q, tEv K (fun r s => (el r s).bind fun ds s1 => alloc (.lst ds) s1) σ H Q → tLv K 2 el σ H Q := fun σ H Q ⟨φ, r, S, d, S', hv, hs, e, q⟩ => by
  obtain ⟨ds, S1, e1, e⟩ := bind_ok e
  unfold alloc at e
  cases e
  refine ⟨φ, r, S, ds, S1, hv, hs, e1, fun φ1 H1 a vs x1 hs1 r1 lk => ?_⟩
  obtain ⟨l1, l2, l3⟩ := lk
  refine q (φ1 ++ [a]) (.ref a) H1 (x1.reg l3) (hs1.reg l2 ⟨vs, l1, r1⟩) ?_
  simp only [Rep]
  exact ⟨a, rfl, by rw [← hs1.len]; simp⟩
theorem s_asgC (g : Good G cl r) (C : Cg G cl X) (hk : X.env.scope.kind = .function) (hf : ∀ x, X.fn x = true) {F : Nat} {y : Str} {py p pos : Pos} {elt tg iter : Expr} {ifs : List Expr} {scope : Scope} {i : Nat} {l : Ls}
    (hy : locB X.env.scope y = true) (hi : ixOf X.N y = some i) (h : lComp r X.N X.env.scope elt tg iter ifs scope = some l) : PS X (.Assign [.Name y py] (.ListComp elt [⟨tg, iter, ifs, 0⟩] scope p) pos) (tSv X.K (evS cl F (.asg (.name i) (.newL l)))) := by
  have nd := ixOf_at hi
  have k2 : l.kd = 2 := by
    unfold lComp at h
    obtain ⟨_, h3⟩ := ifO_some h
    split at h3
    · obtain ⟨_, h4⟩ := ifO_some h3
      cases h4; rfl
    · cases h3
  cases hsw : (X.env.blockKind == .function && X.env.kindOf y == some .local && py.line == (Expr.ListComp elt [⟨tg, iter, ifs, 0⟩] scope p).pos.line && !(scope.names.any fun (n, k) => n == y && (k == .local || k == .cell)))
  · have sw : swapsWith (.ListComp elt [⟨tg, iter, ifs, 0⟩] scope p) (some (.Name y py)) pos.line X.env = pure false := by
      show (pure _ : Sem Bool) = pure false
      rw [hsw]
    have hc := s_comp g C (p := p) h
    rw [k2] at hc
    exact (v_asg (tg := .Name y py) rfl sw (by rfl) (v_newL hc) (v_gname C.nd nd (loc_of hy) (.inl (hf y)))).to fun r s => by rw [evS, evE]; simp only [asT]
  · have sw : swapsWith (.ListComp elt [⟨tg, iter, ifs, 0⟩] scope p) (some (.Name y py)) pos.line X.env = pure true := by
      show (pure _ : Sem Bool) = pure true
      rw [hsw]
    have hyl : X.env.scope.names.lookup y = some .local := by
      simp only [Bool.and_eq_true] at hsw
      exact eq_of_beq hsw.1.1.2
    unfold lComp at h
    obtain ⟨hb, h3⟩ := ifO_some h
    clear h
    simp only [Bool.and_eq_true, Bool.not_eq_true'] at hb
    obtain ⟨hblk, hset⟩ := hb
    split at h3
    · next t it cc x ht hit hc hx =>
      obtain ⟨hall, h4⟩ := ifO_some h3
      cases h4
      have hj : ∀ j ∈ t.ids, j ∈ (ownOf X.N scope).map (·.2) := fun j hj => List.contains_iff_mem.mp (List.all_eq_true.mp hall j hj)
      have main := ps_setLc (pos := p) (spos := pos) (py := py) (te := tEv X.K (evE cl x)) (tt := tTv X.K (evC cl cc)) (g := tGv X.K t.ids (asT cl t)) (wi := tIv X.K (evIt cl it)) C.rm.calm C.nd nd hyl sw (g.it X tg iter it C hit) (blkOk_by hblk)
        (fun s H D cc2 fp => g.t (X.blk s H scope (compEnvC scope cc2 D X.env) fp) _ tg t (C.blk ..) (fun _ z => z) ht)
        (fun s H D cc2 fp => g.i (X.blk s H scope (compEnvC scope cc2 D X.env) fp) ifs cc (C.blk ..) hc)
        (fun s H D cc2 fp => g.e (X.blk s H scope (compEnvC scope cc2 D X.env) fp) elt x (C.blk ..) hx)
        (by intro y; cases iter <;> first | rfl | (simp [isSet] at hset))
      refine (main.imp (asg_imp (js := [i]) (ga := fun d r s => .ok (r.set i (some d)) s) (fun σ H Q q => comp_imp hj σ H Q (newL_imp σ H Q q)) fun v σ H Q ⟨φ, r, S, d, r', S', hv, hs, hr, e, q⟩ => ?_)).to fun r s => by rw [evS, evE, evL]; simp only [asT] <;> rfl
      cases e
      exact q φ _ H Ex.rfl' hs (hv.set i hr) ⟨by simp, fun j hj => by
        rw [List.getElem?_set_ne]
        exact fun e => hj (by rw [e]; simp)⟩
    · cases h3
theorem par_sw (hk : X.env.scope.kind = .function) {x y : Str} {px py pt pt2 : Pos} {k1 k2 : Nat} {a b : Expr} (hx : X.env.scope.names.lookup x = some .local) (hy : X.env.scope.names.lookup y = some .local) (hne : x ≠ y) (hl : px.line = py.line)
    (hf : (foldedForSure 8 a && foldedForSure 8 b) = false) (hc : (constantsAlone 8 a && constantsAlone 8 b) = false) (ha : isStar a = false) (hb : isStar b = false) :
    swappedStores [.Tuple [.Name x px, .Name y py] k1 pt] (.Tuple [a, b] k2 pt2) X.env = pure (some [x, y]) := by
  have bk : X.env.blockKind = .function := by unfold PySem.Env.blockKind; rw [hk]; rfl
  unfold swappedStores
  have kx : X.env.kindOf x = some .local := hx
  have ky : X.env.kindOf y = some .local := hy
  simp [bk, kx, ky, hl, hf, hc, hne, Ne.symm hne, Expr.pos]
  rw [if_neg, if_pos]
  · have : (y == x) = false := beq_eq_false_iff_ne.mpr (Ne.symm hne)
    simp [List.eraseDups_cons, List.filter_cons, this]
  · rintro (h | h)
    · cases a <;> first | (cases h; done) | (simp [isStar] at ha)
    · cases b <;> first | (cases h; done) | (simp [isStar] at hb)
theorem parOf_some {N : List Str} {sc : Scope} {t e a b : Expr} {i j : Nat} (h : parOf N sc t e = some (i, j, a, b)) : ∃ x px y py k1 pt k2 pt2, t = .Tuple [.Name x px, .Name y py] k1 pt ∧ e = .Tuple [a, b] k2 pt2 ∧ ixOf N x = some i ∧ ixOf N y = some j ∧ isLoc sc x = true ∧ isLoc sc y = true ∧ x ≠ y ∧ px.line = py.line ∧
    (foldedForSure 8 a && foldedForSure 8 b) = false ∧ (constantsAlone 8 a && constantsAlone 8 b) = false ∧ isStar a = false ∧ isStar b = false := by
  unfold parOf at h
  split at h
  · next x px y py k1 pt a' b' k2 pt2 =>
    split at h
    · next hc =>
      simp only [Bool.and_eq_true, Bool.not_eq_true', decide_eq_true_eq] at hc
      obtain ⟨⟨⟨⟨⟨⟨⟨c1, c2⟩, c3⟩, c4⟩, c5⟩, c6⟩, c7⟩, c8⟩ := hc
      split at h
      · next i' j' h1 h2 =>
        cases h
        exact ⟨x, px, y, py, k1, pt, k2, pt2, rfl, rfl, h1, h2, c1, c2, c3, c4, c5, c6, c7, c8⟩
      · cases h
    · cases h
  · cases h
theorem par_sw3 (hk : X.env.scope.kind = .function) {x y z : Str} {px py pz pt pt2 : Pos} {k1 k2 : Nat} {a b c : Expr} (hx : X.env.scope.names.lookup x = some .local) (hy : X.env.scope.names.lookup y = some .local) (hz : X.env.scope.names.lookup z = some .local) (hxy : x ≠ y) (hxz : x ≠ z) (hyz : y ≠ z) (hl : px.line = py.line) (hl2 : px.line = pz.line)
    (hf : (foldedForSure 8 a && foldedForSure 8 b && foldedForSure 8 c) = false) (hc : (constantsAlone 8 a && constantsAlone 8 b && constantsAlone 8 c) = false) (ha : isStar a = false) (hb : isStar b = false) (hc2 : isStar c = false) :
    swappedStores [.Tuple [.Name x px, .Name y py, .Name z pz] k1 pt] (.Tuple [a, b, c] k2 pt2) X.env = pure (some [x, y, z]) := by
  have bk : X.env.blockKind = .function := by unfold PySem.Env.blockKind; rw [hk]; rfl
  unfold swappedStores
  have kx : X.env.kindOf x = some .local := hx
  have ky : X.env.kindOf y = some .local := hy
  have kz : X.env.kindOf z = some .local := hz
  have hl3 : py.line = pz.line := hl.symm.trans hl2
  rw [Bool.and_assoc] at hf hc
  have n1 : (y == x) = false := beq_eq_false_iff_ne.mpr (Ne.symm hxy)
  have n2 : (z == x) = false := beq_eq_false_iff_ne.mpr (Ne.symm hxz)
  have n3 : (z == y) = false := beq_eq_false_iff_ne.mpr (Ne.symm hyz)
  simp [bk, kx, ky, kz, hl, hl2, hl3, hf, hc, Expr.pos]
  rw [if_neg, if_pos]
  · simp [List.eraseDups_cons, List.filter_cons, n1, n2, n3]
  · rintro (h | h | h)
    · cases a <;> first | (cases h; done) | (simp [isStar] at ha)
    · cases b <;> first | (cases h; done) | (simp [isStar] at hb)
    · cases c <;> first | (cases h; done) | (simp [isStar] at hc2)
theorem parOf3_some {N : List Str} {sc : Scope} {t e a b c : Expr} {i j l : Nat} (h : parOf3 N sc t e = some ((i, j, l), a, b, c)) : ∃ x px y py z pz k1 pt k2 pt2, t = .Tuple [.Name x px, .Name y py, .Name z pz] k1 pt ∧ e = .Tuple [a, b, c] k2 pt2 ∧ (ixOf N x = some i ∧ ixOf N y = some j ∧ ixOf N z = some l) ∧ (isLoc sc x = true ∧ isLoc sc y = true ∧ isLoc sc z = true) ∧ (x ≠ y ∧ x ≠ z ∧ y ≠ z) ∧ (px.line = py.line ∧ px.line = pz.line) ∧
    (foldedForSure 8 a && foldedForSure 8 b && foldedForSure 8 c) = false ∧ (constantsAlone 8 a && constantsAlone 8 b && constantsAlone 8 c) = false ∧ isStar a = false ∧ isStar b = false ∧ isStar c = false := by
  unfold parOf3 at h
  split at h
  · next x px y py z pz k1 pt a' b' c' k2 pt2 =>
    split at h
    · next hc =>
      simp only [Bool.and_eq_true, Bool.not_eq_true', decide_eq_true_eq] at hc
      obtain ⟨⟨⟨⟨⟨⟨⟨⟨⟨⟨⟨⟨c1, c2⟩, c3⟩, c4⟩, c5⟩, c6⟩, c7⟩, c8⟩, c9⟩, c10⟩, c11⟩, c12⟩, c13⟩ := hc
      split at h
      · next i' j' l' h1 h2 h3 =>
        cases h
        exact ⟨x, px, y, py, z, pz, k1, pt, k2, pt2, rfl, rfl, ⟨h1, h2, h3⟩, ⟨c1, c2, c3⟩, ⟨c4, c5, c6⟩, ⟨c7, c8⟩, c9, c10, c11, c12, c13⟩
      · cases h
    · cases h
  · cases h
theorem ix_ne {N : List Str} {x y : Str} {i j : Nat} (h1 : ixOf N x = some i) (h2 : ixOf N y = some j) (h : x ≠ y) : i ≠ j := fun e => by
  have q := ixOf_at h1
  rw [e, ixOf_at h2] at q
  exact h (Option.some.inj q).symm
theorem s_asg (g : Good G cl r) (C : Cg G cl X) (hk : X.env.scope.kind = .function) (hf : ∀ x, X.fn x = true) {F : Nat} {t e : Expr} {pos : Pos} {c : S} (h : sAsg r X.N X.env.scope t e = some c) : PS X (.Assign [t] e pos) (tSv X.K (evS cl F c)) := by
  unfold sAsg at h
  split at h
  · obtain ⟨hy, h3⟩ := ifO_some h
    obtain ⟨i, l, h1, h2, rfl⟩ := two_some h3
    exact s_asgC g C hk hf hy h1 h2
  · split at h
    · next i j a b hp =>
      obtain ⟨u, w, h1, h2, rfl⟩ := two_some h
      obtain ⟨x, px, y, py, k1, pt, k2, pt2, rfl, rfl, i1, i2, l1, l2, hne, hl, f1, f2, st1, st2⟩ := parOf_some hp
      have hx := isLoc_of l1
      have hy := isLoc_of l2
      refine (v_par C.rm.calm C.nd (ixOf_at i1) (ixOf_at i2) (fun e => hne ?_) hx hy st1 st2 (g.e X a u C h1) (g.e X b w C h2) (par_sw hk hx hy hne hl f1 f2 st1 st2)).to fun r s => by rw [evS]
      have q := ixOf_at i1
      rw [e, ixOf_at i2] at q
      exact (Option.some.inj q).symm
    · split at h
      · next i j l a b c hp =>
        obtain ⟨u, v, w, h1, h2, h3, rfl⟩ := three_some h
        obtain ⟨x, px, y, py, z, pz, k1, pt, k2, pt2, rfl, rfl, ⟨i1, i2, i3⟩, ⟨l1, l2, l3⟩, ⟨n1, n2, n3⟩, ⟨p1, p2⟩, f1, f2, st1, st2, st3⟩ := parOf3_some hp
        have hx := isLoc_of l1
        have hy := isLoc_of l2
        have hz := isLoc_of l3
        exact (v_par3 C.rm.calm C.nd (ixOf_at i1) (ixOf_at i2) (ixOf_at i3) (ix_ne i1 i2 n1) (ix_ne i1 i3 n2) (ix_ne i2 i3 n3) hx hy hz st1 st2 st3 (g.e X a u C h1) (g.e X b v C h2) (g.e X c w C h3) (par_sw3 hk hx hy hz n1 n2 n3 p1 p2 f1 f2 st1 st2 st3)).to fun r s => by rw [evS]
      obtain ⟨hc, h3⟩ := ifO_some h
      obtain ⟨x, y, h1, h2, rfl⟩ := two_some h3
      simp only [Bool.and_eq_true, Bool.not_eq_true'] at hc
      obtain ⟨⟨ht, htt⟩, hcomp⟩ := hc
      refine (v_asg ?_ ?_ ?_ (g.e X e x C h1) (g.t X _ t y C (fun z _ => hf z) h2)).to fun r s => by rw [evS]
      · cases t <;> first | rfl | (simp [isTgt] at ht)
      · cases e <;> first | rfl | (simp [isComp] at hcomp)
      · cases t <;> first | (simp [isTgt] at ht; done) | skip
        · rfl
        all_goals first | rfl | (cases e <;> first | rfl | (simp [isTup] at htt))
mutual
theorem s_s (g : Good G cl r) (C : Cg G cl X) (hk : X.env.scope.kind = .function) (hf : ∀ x, X.fn x = true) (hp : PassesOwn (model X.prog X.w) X.A X.env X.xe) {F : Nat} : ∀ (n : Nat) (st : Stmt) (c : S), cS r X.N X.env.scope n st = some c → PS X st (tSv X.K (evS cl F c))
  | 0, st, c, h => by cases h
  | n + 1, st, c, h => by
    unfold cS at h
    split at h
    · exact s_asg g C hk hf h
    · cases h; exact v_doc.to fun r s => by rw [evS]
    · obtain ⟨x, h1, rfl⟩ := Option.map_eq_some_iff.mp h
      exact (v_expr (by rfl) (g.e X _ x C h1)).to fun r s => by rw [evS]
    · obtain ⟨x, h1, rfl⟩ := Option.map_eq_some_iff.mp h
      exact (v_ret (g.e X _ x C h1)).to fun r s => by rw [evS]
    · cases h; exact v_retN.to fun r s => by rw [evS]
    · obtain ⟨x, y, z, h1, h2, h3, rfl⟩ := three_some h
      exact (v_if (g.c X _ x C h1) (s_ss g C hk hf hp n _ y h2) (s_ss g C hk hf hp n _ z h3)).to fun r s => by rw [evS]
    · obtain ⟨hset, h0⟩ := ifO_some h
      obtain ⟨x, y, z, h1, h2, h3, rfl⟩ := three_some h0
      exact (v_for hp C.rm.calm (by simpa using hset) (g.it X _ _ y C h2) (g.t X _ _ x C (fun z _ => hf z) h1) (s_ss g C hk hf hp n _ z h3)).to fun r s => by rw [evS]
    · obtain ⟨x, y, h1, h2, rfl⟩ := two_some h
      exact (v_whl (F := F) hp (g.c X _ x C h1) (s_ss g C hk hf hp n _ y h2)).to fun r s => by rw [evS]
    · cases h; exact v_pass.to fun r s => by rw [evS]
    · cases h; exact v_brk.to fun r s => by rw [evS]
    · cases h; exact v_cnt.to fun r s => by rw [evS]
    · cases h
theorem s_ss (g : Good G cl r) (C : Cg G cl X) (hk : X.env.scope.kind = .function) (hf : ∀ x, X.fn x = true) (hp : PassesOwn (model X.prog X.w) X.A X.env X.xe) {F : Nat} : ∀ (n : Nat) (sts : List Stmt) (c : List S), cSs r X.N X.env.scope n sts = some c → PSs X sts (tSv X.K (evSs cl F c))
  | 0, st, c, h => by cases h
  | n + 1, sts, c, h => by
    unfold cSs at h
    split at h
    · cases h; exact v_nil.to fun r s => by rw [evSs]
    · obtain ⟨x, y, h1, h2, rfl⟩ := two_some h
      exact (v_seq (s_s g C hk hf hp n _ x h1) (s_ss g C hk hf hp n _ y h2)).to fun r s => by rw [evSs] <;> rfl
end
end
end Wb

/-! W23: the defs of a module; the law's call. -/
namespace Wb
open PySem PySem.Spec PyProof.Rows L2
/-- a def with its places and its code -/
structure Df where
  d : He.DefD
  N : List Str
  ps : List Str
  code : List S
def Df.fn (x : Df) : Fn := ⟨x.ps.length, x.N.length, x.code⟩
structure Df.Ok (G : Gm) (x : Df) : Prop where
  sc : FnScope x.N x.ps x.d.scope
  co : cSs (rc G 60) x.N x.d.scope 60 x.d.body = some x.code
  bd : ∀ (kV doc pm : Value) (an : Option Addr) (cdv ct : Value) (us : List Value), us.length = x.ps.length → bindArgs (PySem.W.fnOf x.d.name x.d.qual x.d.params x.d.body x.d.scope .none kV doc pm an cdv ct) ⟨us, []⟩ = pure (x.ps.zip us)
section
variable {P : Program} {w : World} {K : PySem.W.Frag} {mg : Str → Option Value} {base : Heap} {G : Gm} {dfs : List Df} {F : Nat}
theorem all_fng (hG : G.fns = dfs.map fun x : Df => x.d.at_.1) (hfun : ∀ (i : Nat) (x : Df), dfs[i]? = some x → ∃ f fd, mg x.d.at_.1 = some (.ref f) ∧ FunD K x.d.name x.d.qual x.d.params x.d.body x.d.scope [] [] f fd) (hok : ∀ (i : Nat) (x : Df), dfs[i]? = some x → x.Ok G)
    (hblt : ∀ x, G.blt.contains x = true → mg x = none) (hcons : ∀ x d, G.cons.lookup x = some d → ∃ v u, mg x = some u ∧ RelV v u ∧ ∀ φ H, Rep K φ H d v) :
    ∀ (k i : Nat) (x : Df) (f : Addr) (fd : FuncData), dfs[i]? = some x → mg x.d.at_.1 = some (.ref f) → FunD K x.d.name x.d.qual x.d.params x.d.body x.d.scope [] [] f fd → FnG P w K mg base k f fd x.ps (call (dfs.map Df.fn) F k i)
  | 0, i, x, f, fd, _, _, _ => ⟨fun A outer s H args us vs φ ds S d S' Q _ _ _ _ _ _ he _ _ => by cases he⟩
  | k + 1, i, x, f, fd, hx, hm, hF => by
    obtain ⟨oc, od, dV, kV, doc, pm, an, cdv, ct, osl, rfl, lk, hcd, _, _⟩ := hF.ex
    have ok := hok i x hx
    refine fng_of (eb := evSs (call (dfs.map Df.fn) F k) F x.code) lk hcd ok.sc (fun A outer s H room => PSs.nox ?_) fun ds S d S' hl he => ?_
    · have C : Cg G (call (dfs.map Df.fn) F k) (cxOf CX0 P w K mg base x.N x.d.qual x.d.scope f cdv A outer s H E0).nox := by
        refine ⟨⟨rfl, ?_, room.gd⟩, ok.sc.nd, hblt, fun j y hj => ?_, hcons⟩
        · have := room.rm.un
          show (A.deeper _).units + 150 < cLine
          omega
        · rw [hG, List.getElem?_map] at hj
          obtain ⟨z, hz, rfl⟩ := Option.map_eq_some_iff.mp hj
          obtain ⟨g, gd, g1, g2⟩ := hfun j z hz
          refine ⟨k, g, gd, z.ps, g1, g2.kp, g2.bindsN (hok j z hz).bd, room, all_fng hG hfun hok hblt hcons k j z g gd hz g1 g2, fun ds S d S' he => ?_⟩
          cases k with
          | zero => cases he
          | succ k =>
            unfold call at he
            rw [List.getElem?_map, hz] at he
            simp only [Option.map_some] at he
            split at he
            · assumption
            · cases he
      exact s_ss (good_all 60) C ok.sc.kind (fun _ => rfl) PassesOwn.never 60 _ _ ok.co
    · unfold call at he
      rw [List.getElem?_map, hx] at he
      simp only [Option.map_some] at he
      split at he
      · next hn =>
        obtain ⟨o, S1, e1, e2⟩ := bind_ok he
        refine ⟨o, S1, ?_, ?_⟩
        · have : x.fn.np = ds.length := hn.symm
          rw [show x.N.length - ds.length = x.fn.nn - x.fn.np by rw [this]; rfl]
          exact e1
        · cases o with
          | rt d0 => exact .inl ⟨d0, rfl, e2⟩
          | nx r => exact .inr ⟨r, rfl, e2⟩
          | bk r => cases e2
          | ct r => cases e2
      · cases he
end
end Wb

/-! W24: the law's call, the law's end. -/
namespace Wb
open PySem PySem.Spec PyProof.Rows L2
section
variable {P : Program} {w : World} {K : PySem.W.Frag} {mg mb : Str → Option Value}
/-- the promise of the law's def, over a base -/
def LawOk (P : Program) (w : World) (K : PySem.W.Frag) (mg : Str → Option Value) (k : Nat) (fa : Addr) (fd : FuncData) (x : Str) (ns : List Int) : Prop :=
  ∀ base : Heap, K.In base → base.Ns mainGlobals mg → ∃ (ev : List D → Store → Res D) (S : Store), FnG P w K mg base k fa fd [x] ev ∧ ev [.fix (ns.map .int)] [] = .ok (.bl true) S
theorem fix_of {H : Hp} {a : Addr} {xs : List V} (only : Only H) (h : SqL K H a xs) : FixL K H a xs := by
  rcases h with (h | h) | h
  · rcases only a with z | ⟨o, ys, z⟩
    · rw [z] at h; cases h
    · rw [z] at h; cases h
  · exact .inl h
  · exact .inr h
theorem law_callG {k : Nat} {fa a : Addr} {fd : FuncData} {x : Str} {st : Shared} {vs : List Value} {ns : List Int} (inH : K.In st.heap) (glob : st.heap.Ns mainGlobals mg) (bns : st.heap.Ns builtinsNs mb) (boot : ∀ y : Str, y ≠ "__name__" → mb y = bootBuiltins y)
    (nol : st.heap.NoLimit) (gens : st.gens = #[]) (scr : st.heap.get? a = some { cls := .type "list", data := .seq vs.toArray }) (nums : IntsAre vs ns) (few : ns.length ≤ sizeLine) (room : RoomG k callerA) (F : LawOk P w K mg k fa fd x ns)
    (bnd : ∀ (s : Shared) (u : Value), BindsTo s fd ⟨[u], []⟩ [(x, u)]) :
    codeAny (model P w) callerA (.call (.ref fa) ⟨[.ref a], []⟩) (fun r s' => r = .ok (.ret (.bool true)) ∧ OldK st.heap s'.heap ∧ s'.os = st.os ∧ AllBare s'.gens) st := by
  have rel := vals_ints nums
  have nlen := nums.length
  have go : ∀ H : Hp, Only H → SqL K H a (ns.map V.int) → HOk P w H st.heap → (∀ b, H b ≠ none → b = a) → (H a ≠ none → K.lookup a = none) →
      codeAny (model P w) callerA (.call (.ref fa) ⟨[.ref a], []⟩) (fun r s' => r = .ok (.ret (.bool true)) ∧ OldK st.heap s'.heap ∧ s'.os = st.os ∧ AllBare s'.gens) st := by
    intro H only sq hok one frag
    have eqA : ∀ {b : Addr} {u : HO}, H b = some u → b = a := fun {b u} e => one b (by rw [e]; simp)
    have hide : ∀ {b : Addr} {o : Obj}, st.heap.get? b = some o → H b = none → (hidT st.heap H).get? b = some o := fun e n => hidT_get e n
    have dictFree : ∀ {b : Addr} {o : Obj} {es : Array DictEntry} {ep : Nat}, st.heap.get? b = some o → o.data = .dict es ep → H b = none := by
      intro b o es ep e d
      cases q : H b with
      | none => rfl
      | some u =>
        have := eqA q
        subst this
        rw [scr] at e
        cases e
        have z : Data.seq vs.toArray _ = Data.dict es ep := d
        cases z
    have nsH : ∀ {b : Addr} {m : Str → Option Value}, st.heap.Ns b m → (hidT st.heap H).Ns b m := fun {b m} ⟨o, es, ep, e, d, z⟩ => ⟨o, es, ep, hide e (dictFree e d), d, z⟩
    have kin : K.In (hidT st.heap H) := by
      intro b o e
      refine hide (inH b o e) ?_
      cases q : H b with
      | none => rfl
      | some u =>
        have := eqA q
        subst this
        rw [frag (by rw [q]; simp)] at e
        cases e
    have modl : Mod K mg (hidT st.heap H) := ⟨kin, nsH glob, ⟨mb, nsH bns, boot⟩, let ⟨mc, z1, z2⟩ := nol; ⟨mc, nsH z1, z2⟩⟩
    have e0 : Env0 P w K mg (hidT st.heap H) callerA [] st H := ⟨rfl, modl, fun b o e => of_hidT e, Nat.le_of_eq (hidT_size _ _), trivial, fun b hb => absurd (show b ∈ ([] : List Addr) from hb) (by simp), hok, .of_eq gens⟩
    obtain ⟨ev, S, fg, he⟩ := F _ kin (nsH glob)
    have hs0 : HS K [] H [] := ⟨rfl, List.nodup_nil, fun n o a h => by simp at h⟩
    have rr : Reps K [] H [.fix (ns.map .int)] [.ref a] := by
      refine Reps.one ?_
      simp only [Rep]
      exact ⟨a, _, rfl, fix_of only sq, reps_ints ns⟩
    have run := fg.run callerA [] st H ⟨[.ref a], []⟩ [.ref a] [.ref a] [] _ [] _ S (fun v _ => v = .bl true) room e0 (bnd st (.ref a)) (.cons rfl .nil) hs0 rr he rfl (fun φ' v H' _ _ h => by simpa only [Rep] using h)
    refine codeAny_mono run fun res s' h => ?_
    match res, h with
    | .error _, h => exact h.elim
    | .ok .next, h => exact h.elim
    | .ok .brk, h => exact h.elim
    | .ok .cont, h => exact h.elim
    | .ok (.ret u), ⟨v, H', os, bare, un, hok', r', q⟩ =>
      have q : v = .bl true := q
      subst q
      have r' : u = Value.bool true := r'
      subst r'
      refine ⟨rfl, OldK.of_keep fun b o e => ?_, os, bare⟩
      cases q : H b with
      | none => exact un.keep b o e q (fun z => absurd (show b ∈ ([] : List Addr) from z) (by simp)) (by simp)
      | some u =>
        rcases only b with z | ⟨ob, xs, z⟩
        · rw [q] at z
          cases z
        · obtain ⟨e1, _⟩ := hok b _ z
          obtain ⟨e2, _⟩ := hok' b _ (un.frzs b ob _ z)
          rw [e] at e1
          cases e1
          exact e2
  cases hk : K.lookup a with
  | some o =>
    have e := inH a o hk
    rw [scr] at e
    cases e
    exact go (fun _ => none) (fun _ => Or.inl rfl) (Or.inr ⟨_, vs.toArray, _, hk, rfl, rfl, rfl, by rw [List.size_toArray, nlen]; exact few, by simpa using rel⟩) (fun b u z => nomatch z) (fun b z => absurd rfl z) (fun z => absurd rfl z)
  | none =>
    let Hs : Hp := fun b => if b = a then some (.frz { cls := .type "list", data := .seq vs.toArray } (.lst (ns.map V.int))) else none
    have at_ : ∀ b u, Hs b = some u → b = a ∧ u = .frz { cls := .type "list", data := .seq vs.toArray } (.lst (ns.map V.int)) := fun b u z => by
      by_cases hb : b = a
      · have z2 : Hs b = _ := if_pos hb
        rw [z2] at z
        cases z
        exact ⟨hb, rfl⟩
      · have z2 : Hs b = none := if_neg hb
        rw [z2] at z
        cases z
    refine go Hs (fun b => ?_) (Or.inl (Or.inr ⟨{ cls := .type "list", data := .seq vs.toArray }, if_pos rfl⟩)) (fun b u z => ?_) (fun b z => ?_) fun _ => hk
    · cases q : Hs b with
      | none => exact Or.inl rfl
      | some u =>
        obtain ⟨rfl, rfl⟩ := at_ b u q
        exact Or.inr ⟨_, _, rfl⟩
    · obtain ⟨rfl, rfl⟩ := at_ b u z
      exact ⟨scr, by rw [List.length_map]; exact few, vs, _, rel, scr⟩
    · cases q : Hs b with
      | none => exact absurd q z
      | some u => exact (at_ b u q).1
end
/-- the law's end over a head by facts -/
theorem walk_ofG {l : PySem.W.OpenLaw} {n k : Nat} {q : Program} {loose : List Str} {XP : (Str → Option Value) → Heap → Prop} {YP : World → Heap → Prop} {d : DefRec} {x : Str} (most : l.most = some n) (le : n ≤ sizeLine) (dfl : d.params.defaults = []) (room : RoomG k callerA)
    (F : ∀ (w : World) (mg : Str → Option Value) (fa : Addr) (h : Heap), YP w h → h.Ns mainGlobals mg → mg d.name = some (.ref fa) →
      ∃ (K : PySem.W.Frag) (fd : FuncData), K.In h ∧ (∀ (s : Shared) (u : Value), BindsTo s fd ⟨[u], []⟩ [(x, u)]) ∧ ∀ ns : List Int, ns.length ≤ n → LawOk l.prog w K mg k fa fd x ns) :
    PySem.W.WalkO q loose XP YP l.row.toRowW d [] (fun f vs => PySem.call f vs) := by
  refine Att.attach_call most dfl fun w s₀ st mg mb fa o pm cd doc a vs ns G Y _ _ _ named scr nums short gens => ?_
  obtain ⟨K, fd, inH, bnd, ok⟩ := F w mg fa _ Y G.T.g named
  exact law_callG inH G.T.g G.T.b G.T.builtins G.T.nolimit gens scr nums (Nat.le_trans short le) room (ok ns short) bnd
end Wb

/-! W25: a law's end from its plain law. -/
namespace Wb
open PySem PySem.Spec PyProof.Rows L2
/-- a plain def of the module -/
structure Df.Plain (x : Df) : Prop where
  at_ : x.d.at_.2 = none
  dfl : x.d.dfl = []
  kwd : x.d.kwd = []
theorem law_of {P : Program} {w : World} {K : PySem.W.Frag} {mg : Str → Option Value} {h : Heap} {G : Gm} {dfs : List Df} {F k li n : Nat} {xl : Df} {fa : List He.Fa} {fn : List He.DefD} {script : Str} {f : Addr} (inH : K.In h) (glob : h.Ns mainGlobals mg) (c : He.SaysD fa fn K)
    (hfn : fn = dfs.map (·.d)) {cs : List (Str × Int)} (hfa : fa = (dfs.map fun x => He.Fa.glo x.d.at_.1) ++ G.blt.map He.Fa.free ++ cs.map fun p => He.Fa.int p.1 p.2) (hG : G.fns = dfs.map fun x : Df => x.d.at_.1) (hc : G.cons = cs.map fun p => (p.1, D.int p.2)) (pl : ∀ x ∈ dfs, x.Plain) (ok : ∀ x ∈ dfs, x.Ok G)
    (hl : dfs[li]? = some xl) (hps : xl.ps = [script]) (hmg : mg xl.d.at_.1 = some (.ref f)) (plain : ∀ ns : List Int, ns.length ≤ n → ∃ S, call (dfs.map Df.fn) F k li [.fix (ns.map .int)] [] = .ok (.bl true) S) :
    ∃ fd : FuncData, (∀ (s : Shared) (v : Value), BindsTo s fd ⟨[v], []⟩ [(script, v)]) ∧ ∀ ns : List Int, ns.length ≤ n → LawOk P w K mg k f fd script ns := by
  have hfun : ∀ (i : Nat) (x : Df), dfs[i]? = some x → ∃ f fd, mg x.d.at_.1 = some (.ref f) ∧ FunD K x.d.name x.d.qual x.d.params x.d.body x.d.scope [] [] f fd := by
    intro i x hx
    have p := pl x (List.mem_of_getElem? hx)
    obtain ⟨fd, hF⟩ := c.def_ i (d := x.d) (by rw [hfn, List.getElem?_map, hx]; rfl)
    have e1 : x.d.dvs K = [] := by unfold He.DefD.dvs; rw [p.dfl]; rfl
    have e2 : x.d.kws K = [] := by unfold He.DefD.kws; rw [p.kwd]; rfl
    have e3 : He.fAd K x.d.at_ = He.ga K x.d.at_.1 := by
      unfold He.fAd
      rw [p.at_]
    rw [e1, e2, e3] at hF
    have fact := c.fact i (f := .glo x.d.at_.1) (by
      rw [hfa, List.append_assoc, List.getElem?_append_left (by rw [List.length_map]; exact (List.getElem?_eq_some_iff.mp hx).1), List.getElem?_map, hx]
      rfl)
    exact ⟨_, fd, He.glo_ok inH glob fact, hF⟩
  have hblt : ∀ x, G.blt.contains x = true → mg x = none := by
    intro x hx
    have hm : He.Fa.free x ∈ fa := by rw [hfa]; exact List.mem_append_left _ (List.mem_append_right _ (List.mem_map.mpr ⟨x, List.contains_iff_mem.mp hx, rfl⟩))
    obtain ⟨i, hi, e⟩ := List.mem_iff_getElem.mp hm
    exact He.free_ok inH glob (c.fact i (f := .free x) (by rw [List.getElem?_eq_getElem hi, e]))
  have hcons : ∀ x d, G.cons.lookup x = some d → ∃ v u, mg x = some u ∧ RelV v u ∧ ∀ φ H, Rep K φ H d v := by
    intro x d hx
    rw [hc] at hx
    have hm : (x, d) ∈ cs.map fun p => (p.1, D.int p.2) := mem_of_lookup hx
    obtain ⟨p, hp, e⟩ := List.mem_map.mp hm
    cases e
    have hm2 : He.Fa.int p.1 p.2 ∈ fa := by rw [hfa]; exact List.mem_append_right _ (List.mem_map.mpr ⟨p, hp, rfl⟩)
    obtain ⟨i, hi, e⟩ := List.mem_iff_getElem.mp hm2
    obtain ⟨t, ht⟩ := He.int_ok inH glob (c.fact i (f := .int p.1 p.2) (by rw [List.getElem?_eq_getElem hi, e]))
    exact ⟨.int p.2, _, ht, ⟨t, rfl⟩, fun φ H => by simp only [Rep]⟩
  obtain ⟨f', fd, m1, hF⟩ := hfun li xl hl
  rw [hmg] at m1
  cases m1
  have okl := ok xl (List.mem_of_getElem? hl)
  refine ⟨fd, fun s v => ?_, fun ns hn base _ _ => ?_⟩
  · have b := FunD.bindsA (ps := xl.ps) hF okl.bd s [v] (by rw [hps]; rfl)
    rw [hps] at b
    exact b
  · obtain ⟨S, e⟩ := plain ns hn
    refine ⟨call (dfs.map Df.fn) F k li, S, ?_, e⟩
    have := all_fng (P := P) (w := w) (base := base) (F := F) hG hfun (fun i x hx => ok x (List.mem_of_getElem? hx)) hblt hcons k li xl f fd hl hmg hF
    rw [hps] at this
    exact this
end Wb

/-! W30: plain data without objects: how it is shown. -/
namespace Wb
open PySem
mutual
/-- none, truths, small whole numbers, tuples of these -/
def D.pl : D → Bool
  | .non => true
  | .bl _ => true
  | .int i => decide (-1000000 < i) && decide (i < 1000000)
  | .tup xs => D.pls xs
  | _ => false
def D.pls : List D → Bool
  | [] => true
  | x :: r => D.pl x && D.pls r
end
mutual
def D.py : D → PyData
  | .non => .none
  | .bl b => .bool b
  | .int i => .int i
  | .tup xs => .tuple (D.pys xs)
  | _ => .none
def D.pys : List D → List PyData
  | [] => []
  | x :: r => D.py x :: D.pys r
end
mutual
/-- how many things -/
def D.nds : D → Nat
  | .tup xs => D.ndss xs + 1
  | _ => 1
def D.ndss : List D → Nat
  | [] => 0
  | x :: r => D.nds x + D.ndss r
end
mutual
def D.dp : D → Nat
  | .tup xs => D.dps xs + 1
  | _ => 0
def D.dps : List D → Nat
  | [] => 0
  | x :: r => max (D.dp x) (D.dps r)
end
mutual
theorem toPy_pl {S : Store} : ∀ (n : Nat) (d : D), d.pl = true → d.dp < n → toPy S n d = some d.py
  | 0, d, _, h => absurd h (Nat.not_lt_zero _)
  | n + 1, .non, _, _ => rfl
  | n + 1, .bl _, _, _ => rfl
  | n + 1, .int _, _, _ => rfl
  | n + 1, .tup xs, h, hd => by
    unfold toPy
    show Option.map PyData.tuple (mapO (toPy S n) xs) = _
    rw [toPys_pl n xs h (by simpa [D.dp] using hd)]
    rfl
  | n + 1, .str _, h, _ => by cases h
  | n + 1, .fix _, h, _ => by cases h
  | n + 1, .ref _, h, _ => by cases h
theorem toPys_pl {S : Store} : ∀ (n : Nat) (xs : List D), D.pls xs = true → D.dps xs < n → mapO (toPy S n) xs = some (D.pys xs)
  | n, [], _, _ => rfl
  | n, x :: r, h, hd => by
    unfold D.pls at h
    unfold D.dps at hd
    simp only [Bool.and_eq_true] at h
    unfold mapO
    rw [toPy_pl n x h.1 (by omega), toPys_pl n r h.2 (by omega)]
    rfl
end
mutual
theorem py_lay : ∀ (d : D), d.pl = true → d.py.canLay0 = true ∧ d.py.depth ≤ d.dp ∧ d.py.showable = true ∧ d.py.leavesShort 8 = true ∧ d.py.weight + 1 ≤ 22 * d.nds
  | .non, _ => ⟨rfl, Nat.le_refl _, rfl, rfl, by show 0 + 1 ≤ 22 * 1; omega⟩
  | .bl b, _ => ⟨rfl, Nat.le_refl _, rfl, rfl, by show 0 + 1 ≤ 22 * 1; omega⟩
  | .int i, h => by
    unfold D.pl at h
    simp only [Bool.and_eq_true, decide_eq_true_eq] at h
    have hn : i.natAbs < 1000000 := by omega
    have hl : i.natAbs.log2 < 20 := by
      by_cases h0 : i.natAbs = 0
      · rw [h0]; decide
      · exact (Nat.log2_lt h0).mpr (by omega)
    refine ⟨rfl, Nat.le_refl _, ?_, ?_, ?_⟩
    · show decide (i.natAbs.log2 < 1920) = true
      exact decide_eq_true (by omega)
    · show decide ((PyData.shown (.int i)).length ≤ 8) = true
      have := int_text_length_le10 (a := i) (k := 6) (by decide) (by omega)
      refine decide_eq_true ?_
      show (Str.ofString (toString i)).length ≤ 8
      have e : (Str.ofString (toString i)).length = (toString i).length := ofString_length _
      omega
    · show (if i == 0 then 0 else i.natAbs.log2 + 1) + 1 ≤ 22 * 1
      split <;> omega
  | .tup xs, h => by
    obtain ⟨h1, h2, h3, h4, h5⟩ := pys_lay xs h
    refine ⟨h1, by show PyData.depthAll _ + 1 ≤ _; unfold D.dp; omega, h3, h4, ?_⟩
    show PyData.weightAll _ + 1 ≤ 22 * (D.ndss xs + 1)
    omega
  | .str _, h => by cases h
  | .fix _, h => by cases h
  | .ref _, h => by cases h
theorem pys_lay : ∀ (xs : List D), D.pls xs = true → PyData.canLayAll0 (D.pys xs) = true ∧ PyData.depthAll (D.pys xs) ≤ D.dps xs ∧ PyData.showableAll (D.pys xs) = true ∧ PyData.leavesShortAll 8 (D.pys xs) = true ∧ PyData.weightAll (D.pys xs) ≤ 22 * D.ndss xs
  | [], _ => ⟨rfl, Nat.le_refl _, rfl, rfl, Nat.zero_le _⟩
  | x :: r, h => by
    unfold D.pls at h
    simp only [Bool.and_eq_true] at h
    obtain ⟨a1, a2, a3, a4, a5⟩ := py_lay x h.1
    obtain ⟨b1, b2, b3, b4, b5⟩ := pys_lay r h.2
    unfold D.pys
    refine ⟨by simp [PyData.canLayAll0, a1, b1], ?_, by simp [PyData.showableAll, a3, b3], by simp [PyData.leavesShortAll, a4, b4], ?_⟩
    · show max _ _ ≤ max _ _
      omega
    · show _ + 1 + _ ≤ 22 * (D.nds x + D.ndss r)
      omega
end
end Wb

/-! W31: running the code, step by step. -/
namespace Wb
open PySem
theorem shown_few {p : PyData} (hl : p.leavesShort 8 = true) (hw : p.weight ≤ 90000) : small p.shown.length = true := by
  have := PyData.shown_le 8 (by decide) p hl
  exact decide_eq_true (by show p.shown.length ≤ 1000000; omega)
theorem reprD_pl {S : Store} {d : D} (h : d.pl = true) (hd : d.dp ≤ 50) (hn : d.nds ≤ 4000) : reprD S d = some (.str d.py.shown) := by
  obtain ⟨a1, a2, a3, a4, a5⟩ := py_lay d h
  unfold reprD pyOk
  rw [toPy_pl 60 d h (by omega)]
  have sh : SeqAt.shaped d.py = true := by
    unfold SeqAt.shaped
    rw [a1, Bool.true_and]
    exact decide_eq_true (by omega)
  simp only [sh, if_true, a3, Bool.true_and]
  rw [if_pos (shown_few a4 (by omega))]
theorem reprD_lst {S : Store} {k : Nat} {xs : List D} (hk : S[k]? = some (.lst xs)) (h : D.pls xs = true) (hd : D.dps xs ≤ 50) (hn : D.ndss xs ≤ 4000) : reprD S (.ref k) = some (.str (PyData.list (D.pys xs)).shown) := by
  obtain ⟨a1, a2, a3, a4, a5⟩ := pys_lay xs h
  have e : toPy S 60 (.ref k) = some (.list (D.pys xs)) := by
    unfold toPy
    show (match S[k]? with
      | some (O.lst xs) => Option.map PyData.list (mapO (toPy S 59) xs)
      | x => none) = _
    rw [hk]
    show Option.map PyData.list (mapO (toPy S 59) xs) = _
    rw [toPys_pl 59 xs h (by omega)]
    rfl
  unfold reprD pyOk
  rw [e]
  have sh : SeqAt.shaped (.list (D.pys xs)) = true := by
    unfold SeqAt.shaped
    have e1 : (PyData.list (D.pys xs)).canLay0 = true := a1
    rw [e1, Bool.true_and]
    refine decide_eq_true ?_
    show PyData.depthAll (D.pys xs) + 1 ≤ 64
    omega
  have e3 : (PyData.list (D.pys xs)).showable = true := a3
  simp only [sh, if_true, e3, Bool.true_and]
  rw [if_pos (shown_few (p := .list (D.pys xs)) a4 (by show PyData.weightAll _ ≤ _; omega))]
theorem pys_ints {S : Store} : ∀ (n : Nat) (cs : List Int), mapO (toPy S (n + 1)) (cs.map D.int) = some (cs.map PyData.int)
  | n, [] => rfl
  | n, c :: r => by
    show mapO _ (D.int c :: r.map D.int) = _
    unfold mapO
    rw [pys_ints n r]
    rfl
theorem lay_ints : ∀ cs : List Int, PyData.canLayAll0 (cs.map PyData.int) = true ∧ PyData.depthAll (cs.map PyData.int) = 0
  | [] => ⟨rfl, rfl⟩
  | c :: r => by
    obtain ⟨h1, h2⟩ := lay_ints r
    exact ⟨by simp [PyData.canLayAll0, PyData.canLay0, h1], by simp [PyData.depthAll, PyData.depth, h2]⟩
theorem eqL_nil {S : Store} (cs : List Int) : eqL S (cs.map D.int) [] = some (decide (cs = [])) := by
  have p : pyOks S (cs.map D.int) = some (cs.map PyData.int) := by
    unfold pyOks
    rw [pys_ints 58 cs]
    obtain ⟨h1, h2⟩ := lay_ints cs
    have sh : SeqAt.shaped (.list (cs.map PyData.int)) = true := by
      unfold SeqAt.shaped
      have e1 : (PyData.list (cs.map PyData.int)).canLay0 = true := h1
      rw [e1, Bool.true_and]
      refine decide_eq_true ?_
      show PyData.depthAll _ + 1 ≤ 64
      omega
    simp only [sh, if_true]
  have p0 : pyOks S [] = some [] := by rfl
  unfold eqL
  rw [p, p0]
  cases cs <;> rfl
/-! ### the calculus -/
def Ok {α : Type} (m : Res α) (Q : α → Store → Prop) : Prop := ∃ a S, m = .ok a S ∧ Q a S
section
variable {α β : Type} {a : α} {S : Store} {m : Res α} {f : α → Store → Res β} {Q Q' : α → Store → Prop} {R : β → Store → Prop}
theorem ok_ok (h : Q a S) : Ok (.ok a S) Q := ⟨a, S, rfl, h⟩
theorem ok_imp (h : Ok m Q') (i : ∀ a S, Q' a S → Q a S) : Ok m Q := let ⟨a, S, e, q⟩ := h; ⟨a, S, e, i a S q⟩
theorem ok_bind (h : Ok m fun a S => Ok (f a S) R) : Ok (m.bind f) R := by
  obtain ⟨a, S, e, b, S', e', q⟩ := h
  exact ⟨b, S', by rw [e]; exact e', q⟩
theorem ok_bindI : Ok (m.bind f) R ↔ Ok m fun a S => Ok (f a S) R := by
  refine ⟨fun ⟨b, S', e, q⟩ => ?_, ok_bind⟩
  obtain ⟨a, S, e1, e2⟩ := bind_ok e
  exact ⟨a, S, e1, b, S', e2, q⟩
theorem ok_okI : Ok (.ok a S) Q ↔ Q a S := by
  refine ⟨fun ⟨b, S', e, q⟩ => ?_, ok_ok⟩
  cases e
  exact q
theorem ok_optI {o : Option α} : Ok (Res.opt S o) Q ↔ ∃ a, o = some a ∧ Q a S := by
  cases o with
  | none => exact ⟨fun h => (by obtain ⟨_, _, e, _⟩ := h; cases e), fun h => (by obtain ⟨_, e, _⟩ := h; cases e)⟩
  | some b => exact ⟨fun h => ⟨b, rfl, ok_okI.mp h⟩, fun ⟨c, e, q⟩ => by cases e; exact ok_ok q⟩
end
section
variable {cl : Nat → List D → Store → Res D} {F : Nat} {r : Env} {s : Store} {rest a b : List Wb.S} {Q : Out → Store → Prop} {e c o i : E}
/-- what is to hold behind a statement, by how it ends -/
def Cont (cl : Nat → List D → Store → Res D) (F : Nat) (rest : List Wb.S) (Q : Out → Store → Prop) : Out → Store → Prop
  | .nx r, s => Ok (evSs cl F rest r s) Q
  | .rt d, s => Q (.rt d) s
  | .bk r, s => Q (.bk r) s
  | .ct r, s => Q (.ct r) s
theorem ok_cons {st : Wb.S} (h : Ok (evS cl F st r s) (Cont cl F rest Q)) : Ok (evSs cl F (st :: rest) r s) Q := by
  rw [evSs]
  refine ok_bind (ok_imp h fun o s h => ?_)
  cases o with
  | nx r => exact h
  | rt d => exact ok_ok h
  | bk r => exact ok_ok h
  | ct r => exact ok_ok h
theorem ok_nil (h : Q (.nx r) s) : Ok (evSs cl F [] r s) Q := by
  rw [evSs]; exact ok_ok h
theorem ok_asg {i : Nat} (h : Ok (evE cl e r s) fun d s1 => Ok (evSs cl F rest (r.set i (some d)) s1) Q) : Ok (evSs cl F (.asg (.name i) e :: rest) r s) Q := by
  refine ok_cons ?_
  rw [evS]
  refine ok_bind (ok_imp h fun d s1 h => ok_bind ?_)
  rw [asT]
  exact ok_ok (ok_ok h)
theorem ok_asub (h : Ok (evE cl e r s) fun d s1 => Ok (evE cl o r s1) fun x s2 => Ok (evE cl i r s2) fun y s3 => ∃ s4, setD s3 x y d = some s4 ∧ Ok (evSs cl F rest r s4) Q) : Ok (evSs cl F (.asg (.sub o i) e :: rest) r s) Q := by
  refine ok_cons ?_
  rw [evS]
  refine ok_bind (ok_imp h fun d s1 h => ok_bind ?_)
  rw [asT]
  refine ok_bind (ok_imp h fun x s2 h => ok_bind (ok_imp h fun y s3 h => ?_))
  obtain ⟨s4, h1, h2⟩ := h
  rw [h1]
  exact ok_ok (ok_ok h2)
theorem ok_ex (h : Ok (evE cl e r s) fun _ s1 => Ok (evSs cl F rest r s1) Q) : Ok (evSs cl F (.ex e :: rest) r s) Q := by
  refine ok_cons ?_
  rw [evS]
  exact ok_bind (ok_imp h fun d s1 h => ok_ok h)
theorem ok_ret (h : Ok (evE cl e r s) fun d s1 => Q (.rt d) s1) : Ok (evSs cl F (.ret e :: rest) r s) Q := by
  refine ok_cons ?_
  rw [evS]
  exact ok_bind (ok_imp h fun d s1 h => ok_ok h)
theorem ok_ite (h : Ok (evT cl c r s) fun k s1 => if k then Ok (evSs cl F a r s1) (Cont cl F rest Q) else Ok (evSs cl F b r s1) (Cont cl F rest Q)) : Ok (evSs cl F (.ite c a b :: rest) r s) Q := by
  refine ok_cons ?_
  rw [evS]
  refine ok_bind (ok_imp h fun k s1 h => ?_)
  cases k <;> exact h
/-- a choice without an else, that goes on either way -/
theorem ok_when (h : Ok (evT cl c r s) fun k s1 => if k then Ok (evSs cl F a r s1) (Cont cl F rest Q) else Ok (evSs cl F rest r s1) Q) : Ok (evSs cl F (.ite c a [] :: rest) r s) Q := by
  refine ok_ite (ok_imp h fun k s1 h => ?_)
  cases k with
  | true => exact h
  | false => exact ok_nil h
theorem ok_for {t : T} {it : It} (h : Ok (evIt cl it r s) fun p s1 => Ok (forGo (fun d r2 s2 => (asT cl t d r2 s2).bind fun r3 s3 => evSs cl F b r3 s3) p.2 p.1 r s1) (Cont cl F rest Q)) : Ok (evSs cl F (.for_ t it b :: rest) r s) Q := by
  refine ok_cons ?_
  rw [evS]
  exact ok_bind h
theorem ok_par {i j : Nat} {x y : E} (h : Ok (evE cl x r s) fun d s1 => Ok (evE cl y r s1) fun e s2 => Ok (evSs cl F rest ((r.set i (some d)).set j (some e)) s2) Q) : Ok (evSs cl F (.par i j x y :: rest) r s) Q := by
  refine ok_cons ?_
  rw [evS]
  exact ok_bind (ok_imp h fun d s1 h => ok_bind (ok_imp h fun e s2 h => ok_ok h))
/-- a loop over things that are laid once -/
theorem ok_loop {body : D → Env → Store → Res Out} (I : Nat → Env → Store → Prop) {ds : List D} {R : Out → Store → Prop} (h0 : I 0 r s) (hs : ∀ i d r s, ds[i]? = some d → I i r s → Ok (body d r s) fun o s1 => match o with
    | .nx r1 => I (i + 1) r1 s1
    | .ct r1 => I (i + 1) r1 s1
    | .bk r1 => R (.nx r1) s1
    | .rt d => R (.rt d) s1) (hd : ∀ r s, I ds.length r s → R (.nx r) s) : Ok (forGo body none ds r s) R := by
  have go : ∀ (n i : Nat) (r : Env) (s : Store), n = ds.length - i → i ≤ ds.length → I i r s → Ok (forGo body none (ds.drop i) r s) R := by
    intro n
    induction n with
    | zero =>
      intro i r s hn hi h
      have : i = ds.length := by omega
      subst this
      rw [List.drop_length]
      unfold forGo
      rw [if_pos (show still _ none = true from rfl)]
      exact ok_ok (hd r s h)
    | succ n ih =>
      intro i r s hn hi h
      have hlt : i < ds.length := by omega
      rw [List.drop_eq_getElem_cons hlt]
      unfold forGo
      rw [if_pos (show still _ none = true from rfl)]
      obtain ⟨o, s1, e, q⟩ := hs i ds[i] r s (List.getElem?_eq_getElem hlt) h
      rw [e]
      cases o with
      | nx r1 => exact ih (i + 1) r1 s1 (by omega) (by omega) q
      | ct r1 => exact ih (i + 1) r1 s1 (by omega) (by omega) q
      | bk r1 => exact ok_ok q
      | rt d => exact ok_ok q
  have := go ds.length 0 r s (by omega) (Nat.zero_le _) h0
  rwa [List.drop_zero] at this
/-- a comprehension over things that are laid once: each turn gives one thing -/
theorem ok_comp {step : D → Store → Res (Option D)} {R : List D → Store → Prop} (I : Nat → List D → Store → Prop) {ds : List D} (hsz : ds.length ≤ 1000000) (h0 : I 0 [] s)
    (hs : ∀ i d acc s, ds[i]? = some d → I i acc s → Ok (step d s) fun o s1 => match o with
      | some v => I (i + 1) (acc ++ [v]) s1
      | none => I (i + 1) acc s1) (hd : ∀ acc s, I ds.length acc s → R acc s) : Ok (compGo step none ds [] s) R := by
  have go : ∀ (n i : Nat) (acc : List D) (s : Store), n = ds.length - i → i ≤ ds.length → acc.length ≤ i → I i acc s → Ok (compGo step none (ds.drop i) acc s) R := by
    intro n
    induction n with
    | zero =>
      intro i acc s hn hi _ h
      have : i = ds.length := by omega
      subst this
      rw [List.drop_length]
      unfold compGo
      rw [if_pos (show still _ none = true from rfl)]
      exact ok_ok (hd acc s h)
    | succ n ih =>
      intro i acc s hn hi ha h
      have hlt : i < ds.length := by omega
      rw [List.drop_eq_getElem_cons hlt]
      unfold compGo
      rw [if_pos (show still _ none = true from rfl)]
      obtain ⟨o, s1, e, q⟩ := hs i ds[i] acc s (List.getElem?_eq_getElem hlt) h
      rw [e]
      cases o with
      | none => exact ih (i + 1) acc s1 (by omega) (by omega) (by omega) q
      | some v =>
        simp only
        rw [if_pos (show small acc.length = true from decide_eq_true (show acc.length ≤ 1000000 by omega))]
        exact ih (i + 1) (acc ++ [v]) s1 (by omega) (by omega) (by simp; omega) q
  have := go ds.length 0 [] s (by omega) (Nat.zero_le _) (Nat.le_refl _) h0
  rwa [List.drop_zero] at this
end
/-! ### a call, and what is forgotten -/
theorem gc_any {s s1 : Store} {d : D} {Q : D → Store → Prop} (hd : d.under s.length = true) (hl : s.length ≤ s1.length) (h : ∀ s2 : Store, s.length ≤ s2.length → (∀ n, n < s.length → s2[n]? = s1[n]?) → Q d s2) : Ok (gc s d s1) Q := by
  unfold gc
  split
  · exact ok_ok (h _ (by rw [List.length_take]; omega) fun n hn => by rw [List.getElem?_take_of_lt hn])
  · exact ok_ok (h _ hl fun n hn => rfl)
theorem ok_call {P : List Fn} {F k f : Nat} {fn : Fn} {ds : List D} {s : Store} {Q : D → Store → Prop} (hf : P[f]? = some fn) (hl : ds.length = fn.np)
    (h : Ok (evSs (call P F k) F fn.body (ds.map some ++ List.replicate (fn.nn - fn.np) none) s) fun o s1 => match o with
      | .rt d => Ok (gc s d s1) Q
      | .nx _ => Ok (gc s .non s1) Q
      | _ => False) : Ok (call P F (k + 1) f ds s) Q := by
  unfold call
  rw [hf]
  simp only
  rw [if_pos hl]
  refine ok_bind (ok_imp h fun o s1 h => ?_)
  cases o with
  | rt d => exact h
  | nx r => exact h
  | bk r => exact h.elim
  | ct r => exact h.elim
end Wb

/-! W32: stores that go on. -/
namespace Wb
open PySem
/-- what stood stands, but for the one at f -/
structure Step (f : Nat) (S S' : Store) : Prop where
  len : S.length ≤ S'.length
  old : ∀ n, n < S.length → n ≠ f → S'[n]? = S[n]?
section
variable {f n : Nat} {S S1 S2 : Store} {o : O}
theorem Step.rfl' : Step f S S := ⟨Nat.le_refl _, fun _ _ _ => rfl⟩
theorem Step.trans (a : Step f S S1) (b : Step f S1 S2) : Step f S S2 := ⟨Nat.le_trans a.len b.len, fun n h e => (b.old n (Nat.lt_of_lt_of_le h a.len) e).trans (a.old n h e)⟩
theorem Step.push : Step f S (S ++ [o]) := ⟨by simp, fun n h _ => List.getElem?_append_left h⟩
theorem Step.put : Step f S (S.set f o) := ⟨by simp, fun n _ e => List.getElem?_set_ne (Ne.symm e)⟩
/-- a younger one is written -/
theorem Step.young (h : S.length ≤ n) (a : Step f S S1) : Step f S (S1.set n o) := ⟨by simpa using a.len, fun m hm e => by rw [List.getElem?_set_ne (by omega)]; exact a.old m hm e⟩
theorem Step.get (a : Step f S S1) (h : S[n]? = some o) (e : n ≠ f) : S1[n]? = some o := (a.old n (List.getElem?_eq_some_iff.mp h).1 e).trans h
theorem set_self (h : S[n]? = some o) {o' : O} : (S.set n o')[n]? = some o' := by
  rw [List.getElem?_set_self (List.getElem?_eq_some_iff.mp h).1]
theorem set_other {m : Nat} (e : m ≠ n) {o' : O} : (S.set n o')[m]? = S[m]? := List.getElem?_set_ne (Ne.symm e)
theorem push_new : (S ++ [o])[S.length]? = some o := by simp
theorem push_old {u : O} (h : S[n]? = some o) : (S ++ [u])[n]? = some o := by
  rw [List.getElem?_append_left (List.getElem?_eq_some_iff.mp h).1]; exact h
theorem at_lt (h : S[n]? = some o) : n < S.length := (List.getElem?_eq_some_iff.mp h).1
end
theorem ix_dik {S : Store} {n : Nat} {kvs : List (L2.Key × D)} {x : Str} {z : D} (h : S[n]? = some (.dik kvs)) (hg : getK kvs (.inr x) = some z) : ixD S (.ref n) (.str x) = some z := by
  simp only [ixD, h, D.key, hg]
theorem set_dik {S : Store} {n : Nat} {kvs : List (L2.Key × D)} {x : Str} {z : D} (h : S[n]? = some (.dik kvs)) (hs : small kvs.length = true) : setD S (.ref n) (.str x) z = some (S.set n (.dik (setK kvs (.inr x) z))) := by
  simp only [setD, h, D.key, hs, if_true]
theorem atD_in {α : Type} {xs : List α} {i : Int} (h0 : 0 ≤ i) (h1 : i < xs.length) : atD xs i = some (xs[i.toNat]'(by omega)) := by
  unfold atD L2.atI L2.ixN
  rw [if_pos h0, if_pos h1]
  simp
theorem okMul_r {i j : Int} (h : -(2 ^ 64) < j ∧ j < 2 ^ 64) : okMul i j = true := by
  simp only [okMul, Bool.or_eq_true, Bool.and_eq_true, decide_eq_true_eq]
  exact .inr h
theorem okMul_l {i j : Int} (h : -(2 ^ 64) < i ∧ i < 2 ^ 64) : okMul i j = true := by
  simp only [okMul, Bool.or_eq_true, Bool.and_eq_true, decide_eq_true_eq]
  exact .inl h
theorem ok_append {cl : Nat → List D → Store → Res D} {F i q : Nat} {r : Env} {s : Store} {rest : List Wb.S} {Q : Out → Store → Prop} {e : E} {xs : List D} (hi : look r i = some (.ref q)) (hq : s[q]? = some (.lst xs))
    (h : Ok (evE cl e r s) fun d s1 => ∃ xs1, s1[q]? = some (.lst xs1) ∧ xs1.length ≤ 1000000 ∧ Ok (evSs cl F rest r (s1.set q (.lst (xs1 ++ [d])))) Q) : Ok (evSs cl F (.ex (.meth .append (.var i) [e]) :: rest) r s) Q := by
  refine ok_ex ?_
  rw [evE, evE]
  simp only [hi, Res.opt_some, Res.bind_ok, lstAt, hq, Option.isSome_some, if_true, evEs]
  refine ok_bind (ok_bind (ok_imp h fun d s1 ⟨xs1, h1, h2, h3⟩ => ok_ok ?_))
  simp only [methD, h1, show small xs1.length = true from decide_eq_true h2, if_true]
  exact ok_ok h3
theorem cut_map {α β : Type} (g : α → β) (l : List α) (lo hi : Option Int) : cut (l.map g) lo hi = (cut l lo hi).map g := by
  unfold cut
  simp only [List.length_map, List.map_take, List.map_drop]
theorem rng_at {a b : Int} {i : Nat} {d : D} (h : (rngL a b)[i]? = some d) : d = .int (a + i) ∧ (i : Int) < b - a := by
  unfold rngL at h
  rw [List.getElem?_map] at h
  obtain ⟨m, hm, rfl⟩ := Option.map_eq_some_iff.mp h
  obtain ⟨h1, h2⟩ := List.getElem?_eq_some_iff.mp hm
  simp only [List.length_range] at h1
  simp only [List.getElem_range] at h2
  subst h2
  exact ⟨rfl, by omega⟩
theorem rng_len {a b : Int} : (rngL a b).length = (b - a).toNat := by unfold rngL; simp
theorem rngOk_of {a b : Int} (h : -1000000 ≤ a ∧ a ≤ 1000000 ∧ -1000000 ≤ b ∧ b ≤ 1000000) : rngOk a b = true := by
  simp only [rngOk, Bool.and_eq_true, decide_eq_true_eq]; omega
theorem asInts_of : ∀ {ns : List Int}, asInts (ns.map .int) = some ns
  | [] => rfl
  | n :: r => by
    have := asInts_of (ns := r)
    unfold asInts at this ⊢
    show mapO asInt (.int n :: r.map .int) = _
    unfold mapO
    rw [this]
    rfl
theorem asPairs_of : ∀ {ps : List (Int × Int)}, asPairs (ps.map ofPair) = some ps
  | [] => rfl
  | n :: r => by
    have := asPairs_of (ps := r)
    unfold asPairs at this ⊢
    show mapO asPair (ofPair n :: r.map ofPair) = _
    unfold mapO
    rw [this]
    rfl
theorem asInts_pairs {p : Int × Int} {ps : List (Int × Int)} : asInts ((p :: ps).map ofPair) = none := by
  unfold asInts
  show mapO asInt (ofPair p :: ps.map ofPair) = _
  unfold mapO
  rfl
/-- pairs that rise -/
def Up (ps : List (Int × Int)) : Prop := ps.Pairwise fun a b => (!lt2 b a) = true
theorem up_srt {ps : List (Int × Int)} : Up (srtP ps) := srt_srt (le := fun a b => !lt2 b a) (fun a b => le2_tot a b) (fun a b c h1 h2 => le2_tr a b c h1 h2) ps
theorem srt_up {ps : List (Int × Int)} (h : Up ps) : srtP ps = ps := (srtP_one (List.Perm.refl _) h).symm
theorem sortD_pairs {ps : List (Int × Int)} : sortD (ps.map ofPair) = some ((srtP ps).map ofPair) := by
  unfold sortD
  cases ps with
  | nil => rfl
  | cons p r => rw [asInts_pairs, asPairs_of]
theorem sortSetD_pairs {ps : List (Int × Int)} (hl : ps.length < 64) (h : ∀ p ∈ ps, (0 ≤ p.1 ∧ p.1 < 1000000) ∧ 0 ≤ p.2 ∧ p.2 < 1000000) : sortSetD (ps.map ofPair) = some ((srtP (dedup ps)).map ofPair) := by
  unfold sortSetD
  rw [asPairs_of]
  simp only
  rw [if_pos]
  simp only [Bool.and_eq_true, decide_eq_true_eq, List.all_eq_true]
  refine ⟨hl, fun p hp => ?_⟩
  have := h p hp
  omega
theorem mem_srtP {ps : List (Int × Int)} {p : Int × Int} : p ∈ srtP ps ↔ p ∈ ps := (srt_perm ps).mem_iff
theorem dedup_len {α : Type} [DecidableEq α] : ∀ l : List α, (dedup l).length ≤ l.length
  | [] => Nat.le_refl _
  | x :: r => by
    have := dedup_len r
    unfold dedup
    split
    · simp; omega
    · simp; omega
theorem small_of {n : Nat} (h : n ≤ 1000000) : small n = true := decide_eq_true h
theorem comp_map {α : Type} {step : D → Store → Res (Option D)} {f g : α → D} {s : Store} {xs : List α} (hsz : xs.length ≤ 1000000) (h : ∀ x ∈ xs, step (f x) s = .ok (some (g x)) s) : compGo step none (xs.map f) [] s = .ok (xs.map g) s := by
  have go : ∀ (l : List α) (acc : List D), (∀ x ∈ l, x ∈ xs) → acc.length + l.length ≤ 1000000 → compGo step none (l.map f) acc s = .ok (acc ++ l.map g) s := by
    intro l
    induction l with
    | nil => intro acc _ _; simp [compGo, still]
    | cons x l ih =>
      intro acc hm hl
      simp only [List.length_cons] at hl
      show compGo step none (f x :: l.map f) acc s = _
      unfold compGo
      rw [if_pos (show still s none = true from rfl), h x (hm x (by simp))]
      simp only
      rw [if_pos (show small acc.length = true from decide_eq_true (show acc.length ≤ 1000000 by omega)), ih (acc ++ [g x]) (fun y hy => hm y (by simp [hy])) (by simp; omega)]
      simp
  have := go xs [] (fun x h => h) (by simpa using hsz)
  simpa using this
structure Keep (S S' : Store) : Prop where
  len : S.length ≤ S'.length
  old : ∀ n, n < S.length → S'[n]? = S[n]?
theorem Keep.step {f : Nat} {S S' : Store} (h : Keep S S') : Step f S S' := ⟨h.len, fun n hn _ => h.old n hn⟩
theorem Keep.rfl' {S : Store} : Keep S S := ⟨Nat.le_refl _, fun _ _ => rfl⟩
theorem Keep.push {S : Store} {o : O} : Keep S (S ++ [o]) := ⟨by simp, fun n h => List.getElem?_append_left h⟩
theorem Keep.trans {S S1 S2 : Store} (a : Keep S S1) (b : Keep S1 S2) : Keep S S2 := ⟨Nat.le_trans a.len b.len, fun n h => (b.old n (Nat.lt_of_lt_of_le h a.len)).trans (a.old n h)⟩
theorem Keep.get {S S1 : Store} {n : Nat} {o : O} (a : Keep S S1) (h : S[n]? = some o) : S1[n]? = some o := (a.old n (at_lt h)).trans h
theorem gc_keep {s s1 : Store} {d : D} {Q : D → Store → Prop} (hd : d.under s.length = true) (hk : Keep s s1) (h : ∀ s2, Keep s s2 → Q d s2) : Ok (gc s d s1) Q :=
  gc_any hd hk.len fun s2 hl ho => h s2 ⟨hl, fun n hn => (ho n hn).trans (hk.old n hn)⟩
mutual
theorem pl_under : ∀ (d : D) (m : Nat), d.pl = true → d.under m = true
  | .non, _, _ => rfl
  | .bl _, _, _ => rfl
  | .int _, _, _ => rfl
  | .tup xs, m, h => pls_under xs m h
  | .str _, _, h => by cases h
  | .fix _, _, h => by cases h
  | .ref _, _, h => by cases h
theorem pls_under : ∀ (xs : List D) (m : Nat), D.pls xs = true → D.unders m xs = true
  | [], _, _ => rfl
  | x :: r, m, h => by
    unfold D.pls at h
    simp only [Bool.and_eq_true] at h
    unfold D.unders
    rw [pl_under x m h.1, pls_under r m h.2]
    rfl
end
theorem pls_app : ∀ {xs ys : List D}, D.pls (xs ++ ys) = (D.pls xs && D.pls ys)
  | [], ys => by simp [D.pls]
  | x :: r, ys => by simp [D.pls, pls_app (xs := r), Bool.and_assoc]
theorem ndss_app : ∀ {xs ys : List D}, D.ndss (xs ++ ys) = D.ndss xs + D.ndss ys
  | [], ys => by simp [D.ndss]
  | x :: r, ys => by simp [D.ndss, ndss_app (xs := r), Nat.add_assoc]
theorem dps_app : ∀ {xs ys : List D}, D.dps (xs ++ ys) = max (D.dps xs) (D.dps ys)
  | [], ys => by simp [D.dps]
  | x :: r, ys => by simp [D.dps, dps_app (xs := r), Nat.max_assoc]
theorem pls_ints {b : Int} (hb : b ≤ 1000000) : ∀ {ns : List Int}, (∀ n ∈ ns, 0 ≤ n ∧ n < b) → D.pls (ns.map .int) = true ∧ D.dps (ns.map .int) = 0 ∧ D.ndss (ns.map .int) = ns.length
  | [], _ => ⟨rfl, rfl, rfl⟩
  | n :: r, h => by
    obtain ⟨h1, h2, h3⟩ := pls_ints hb (ns := r) fun m hm => h m (by simp [hm])
    have := h n (by simp)
    refine ⟨?_, ?_, ?_⟩
    · show (D.pl (.int n) && D.pls (r.map .int)) = true
      rw [h1, Bool.and_true]
      simp only [D.pl, Bool.and_eq_true, decide_eq_true_eq]
      omega
    · show max 0 (D.dps (r.map .int)) = 0
      omega
    · show 1 + D.ndss (r.map .int) = r.length + 1
      omega
theorem pls_pairs {b : Int} (hb : b ≤ 1000000) : ∀ {ps : List (Int × Int)}, (∀ p ∈ ps, (0 ≤ p.1 ∧ p.1 < b) ∧ 0 ≤ p.2 ∧ p.2 < b) → D.pls (ps.map ofPair) = true ∧ D.dps (ps.map ofPair) ≤ 1 ∧ D.ndss (ps.map ofPair) = 3 * ps.length
  | [], _ => ⟨rfl, by decide, rfl⟩
  | p :: r, h => by
    obtain ⟨h1, h2, h3⟩ := pls_pairs hb (ps := r) fun m hm => h m (by simp [hm])
    have := h p (by simp)
    refine ⟨?_, ?_, ?_⟩
    · show (D.pl (.tup [.int p.1, .int p.2]) && D.pls (r.map ofPair)) = true
      rw [h1, Bool.and_true]
      simp [D.pl, D.pls]
      omega
    · show max 1 (D.dps (r.map ofPair)) ≤ 1
      omega
    · show 3 + D.ndss (r.map ofPair) = 3 * (r.length + 1)
      omega
end Wb

/-! W33: more steps: extend, lists handed out, membership of pairs. -/
namespace Wb
open PySem
theorem ok_extend {cl : Nat → List D → Store → Res D} {F i q : Nat} {r : Env} {s : Store} {rest : List Wb.S} {Q : Out → Store → Prop} {l : Ls} {xs : List D} (hi : look r i = some (.ref q)) (hq : s[q]? = some (.lst xs))
    (h : Ok (evL cl l r s) fun ds s1 => ∃ xs1, s1[q]? = some (.lst xs1) ∧ xs1.length + ds.length ≤ 1000000 ∧ Ok (evSs cl F rest r (s1.set q (.lst (xs1 ++ ds)))) Q) : Ok (evSs cl F (.ex (.ext (.var i) l) :: rest) r s) Q := by
  refine ok_ex ?_
  rw [evE, evE]
  simp only [hi, Res.opt_some, Res.bind_ok, lstAt, hq, Option.isSome_some, if_true]
  refine ok_bind (ok_imp h fun d s1 ⟨xs1, h1, h2, h3⟩ => ?_)
  simp only [h1, small_of h2, if_true]
  exact ok_ok h3
theorem gc_ref {s s1 : Store} {q : Nat} {o : O} {Q : D → Store → Prop} (hq : s1[q]? = some o) (ho : o.under s.length = true) (hk : Keep s s1) (h0 : s.length ≤ q) (h : ∀ q2 s2, Keep s s2 → s.length ≤ q2 → s2[q2]? = some o → Q (.ref q2) s2) : Ok (gc s (.ref q) s1) Q := by
  unfold gc
  split
  · rw [if_neg (by simp [D.under]; omega)]
    simp only [hq, ho, if_true]
    refine ok_ok (h s.length _ ⟨by have := hk.len; simp [List.length_take]; omega, fun n hn => ?_⟩ (Nat.le_refl _) ?_)
    · have hl := hk.len
      rw [List.getElem?_append_left (by rw [List.length_take]; omega), List.getElem?_take_of_lt hn]
      exact hk.old n hn
    · have hl := hk.len
      have e : (s1.take s.length).length = s.length := by rw [List.length_take]; omega
      have : (s1.take s.length ++ [o])[(s1.take s.length).length]? = some o := by simp
      rw [e] at this
      exact this
  · exact ok_ok (h q s1 hk h0 hq)
theorem pyOk_pl {S : Store} {d : D} (h : d.pl = true) (hd : d.dp ≤ 50) : pyOk S d = some d.py := by
  obtain ⟨a1, a2, a3, a4, a5⟩ := py_lay d h
  unfold pyOk
  rw [toPy_pl 60 d h (by omega)]
  have sh : SeqAt.shaped d.py = true := by
    unfold SeqAt.shaped
    rw [a1, Bool.true_and]
    exact decide_eq_true (by omega)
  simp only [sh, if_true]
theorem pyOks_pl {S : Store} {xs : List D} (h : D.pls xs = true) (hd : D.dps xs ≤ 50) : pyOks S xs = some (D.pys xs) := by
  obtain ⟨a1, a2, a3, a4, a5⟩ := pys_lay xs h
  unfold pyOks
  rw [toPys_pl 59 xs h (by omega)]
  have sh : SeqAt.shaped (.list (D.pys xs)) = true := by
    unfold SeqAt.shaped
    have e1 : (PyData.list (D.pys xs)).canLay0 = true := a1
    rw [e1, Bool.true_and]
    refine decide_eq_true ?_
    show PyData.depthAll (D.pys xs) + 1 ≤ 64
    omega
  simp only [sh, if_true]
theorem eqL_none {S : Store} {xs : List D} (h : D.pls xs = true) (hd : D.dps xs ≤ 50) : eqL S xs [] = some (decide (xs = [])) := by
  have p0 : pyOks S [] = some [] := by rfl
  unfold eqL
  rw [pyOks_pl h hd, p0]
  cases xs <;> rfl
theorem any_pairs (p : Int × Int) : ∀ ps : List (Int × Int), ((D.pys (ps.map ofPair)).any fun z => PyData.eqv z (ofPair p).py) = decide (p ∈ ps)
  | [] => rfl
  | q :: r => by
    show (PyData.eqv (ofPair q).py (ofPair p).py || (D.pys (r.map ofPair)).any fun z => PyData.eqv z (ofPair p).py) = _
    rw [any_pairs p r]
    have e : PyData.eqv (ofPair q).py (ofPair p).py = decide (p = q) := by
      show (q.1 == p.1 && (q.2 == p.2 && true)) = decide (p = q)
      obtain ⟨a, b⟩ := p
      obtain ⟨c, d⟩ := q
      by_cases h1 : c = a
      · by_cases h2 : d = b
        · subst h1; subst h2; simp
        · simp [h1, h2, Ne.symm h2]
      · simp [h1, Ne.symm h1]
    rw [e]
    simp only [List.mem_cons, Bool.decide_or]
theorem inD_pairs {S : Store} {b : Int} (hb : b ≤ 1000000) {p : Int × Int} {ps : List (Int × Int)} (hp : (0 ≤ p.1 ∧ p.1 < b) ∧ 0 ≤ p.2 ∧ p.2 < b) (hps : ∀ p ∈ ps, (0 ≤ p.1 ∧ p.1 < b) ∧ 0 ≤ p.2 ∧ p.2 < b) : inD S (ofPair p) (ps.map ofPair) = some (decide (p ∈ ps)) := by
  obtain ⟨h1, h2, _⟩ := pls_pairs hb hps
  obtain ⟨g1, g2, _⟩ := pls_pairs (ps := [p]) hb (by intro q hq; rw [List.mem_singleton.mp hq]; exact hp)
  have k1 : (ofPair p).pl = true := by
    have : (D.pl (ofPair p) && true) = true := g1
    simpa using this
  unfold inD
  rw [pyOk_pl k1 (by show 1 ≤ 50; omega), pyOks_pl h1 (by omega)]
  exact congrArg some (any_pairs p ps)
theorem comp_mapG {α : Type} {step : D → Store → Res (Option D)} {gd : Option (Nat × List D)} {f g : α → D} {s : Store} {xs : List α} (hg : still s gd = true) (hsz : xs.length ≤ 1000000) (h : ∀ x ∈ xs, step (f x) s = .ok (some (g x)) s) : compGo step gd (xs.map f) [] s = .ok (xs.map g) s := by
  have go : ∀ (l : List α) (acc : List D), (∀ x ∈ l, x ∈ xs) → acc.length + l.length ≤ 1000000 → compGo step gd (l.map f) acc s = .ok (acc ++ l.map g) s := by
    intro l
    induction l with
    | nil => intro acc _ _; simp [compGo, hg]
    | cons x l ih =>
      intro acc hm hl
      simp only [List.length_cons] at hl
      show compGo step gd (f x :: l.map f) acc s = _
      unfold compGo
      rw [if_pos hg, h x (hm x (by simp))]
      simp only
      rw [if_pos (small_of (n := acc.length) (by omega)), ih (acc ++ [g x]) (fun y hy => hm y (by simp [hy])) (by simp; omega)]
      simp
  have := go xs [] (fun x h => h) (by simpa using hsz)
  simpa using this
theorem still_of {s : Store} {p : Nat} {xs : List D} (h : s[p]? = some (.lst xs)) : still s (some (p, xs)) = true := decide_eq_true h
theorem zipL_map {α : Type} {f g : α → D} : ∀ xs : List α, zipL (xs.map f) (xs.map g) = xs.map fun x => .tup [f x, g x]
  | [] => rfl
  | x :: xs => by show D.tup [f x, g x] :: zipL (xs.map f) (xs.map g) = _; rw [zipL_map xs]; rfl
theorem gc_refS {s s1 : Store} {q : Nat} {o : O} {Q : D → Store → Prop} (hq : s1[q]? = some o) (ho : o.under s.length = true) (hl : s.length ≤ s1.length) (h0 : s.length ≤ q) (h : ∀ q2 s2, s.length ≤ s2.length → (∀ n, n < s.length → s2[n]? = s1[n]?) → s.length ≤ q2 → s2[q2]? = some o → Q (.ref q2) s2) : Ok (gc s (.ref q) s1) Q := by
  unfold gc
  split
  · rw [if_neg (by simp [D.under]; omega)]
    simp only [hq, ho, if_true]
    refine ok_ok (h s.length _ (by simp [List.length_take]; omega) (fun n hn => ?_) (Nat.le_refl _) ?_)
    · rw [List.getElem?_append_left (by rw [List.length_take]; omega), List.getElem?_take_of_lt hn]
    · have e : (s1.take s.length).length = s.length := by rw [List.length_take]; omega
      have : (s1.take s.length ++ [o])[(s1.take s.length).length]? = some o := by simp
      rw [e] at this
      exact this
  · exact ok_ok (h q s1 hl (fun _ _ => rfl) h0 hq)
theorem eqD_pairs {S : Store} {b : Int} (hb : b ≤ 1000000) {p q : Int × Int} (hp : (0 ≤ p.1 ∧ p.1 < b) ∧ 0 ≤ p.2 ∧ p.2 < b) (hq : (0 ≤ q.1 ∧ q.1 < b) ∧ 0 ≤ q.2 ∧ q.2 < b) : eqD S (ofPair p) (ofPair q) = some (decide (p = q)) := by
  have pl : ∀ p : Int × Int, (0 ≤ p.1 ∧ p.1 < b) ∧ 0 ≤ p.2 ∧ p.2 < b → (ofPair p).pl = true := fun p hp => by
    obtain ⟨g1, g2, _⟩ := pls_pairs (ps := [p]) hb (by intro q hq; rw [List.mem_singleton.mp hq]; exact hp)
    have : (D.pl (ofPair p) && true) = true := g1
    simpa using this
  show (match pyOk S (ofPair p), pyOk S (ofPair q) with
    | some a, some b => some (PyData.eqv a b)
    | _, _ => none) = _
  rw [pyOk_pl (pl p hp) (by show 1 ≤ 50; omega), pyOk_pl (pl q hq) (by show 1 ≤ 50; omega)]
  refine congrArg some ?_
  show (p.1 == q.1 && (p.2 == q.2 && true)) = decide (p = q)
  obtain ⟨a, b⟩ := p
  obtain ⟨c, d⟩ := q
  by_cases h1 : a = c
  · by_cases h2 : b = d
    · subst h1; subst h2; simp
    · simp [h1, h2]
  · simp [h1]
theorem ok_compG {step : D → Store → Res (Option D)} {gd : Option (Nat × List D)} {s : Store} {R : List D → Store → Prop} (hg : still s gd = true) (I : Nat → List D → Prop) {ds : List D} (hsz : ds.length ≤ 1000000) (h0 : I 0 [])
    (hs : ∀ i d acc, ds[i]? = some d → I i acc → ∃ o, step d s = .ok o s ∧ match o with
      | some v => I (i + 1) (acc ++ [v])
      | none => I (i + 1) acc) (hd : ∀ acc, I ds.length acc → R acc s) : Ok (compGo step gd ds [] s) R := by
  have go : ∀ (n i : Nat) (acc : List D), n = ds.length - i → i ≤ ds.length → acc.length ≤ i → I i acc → Ok (compGo step gd (ds.drop i) acc s) R := by
    intro n
    induction n with
    | zero =>
      intro i acc hn hi _ h
      have : i = ds.length := by omega
      subst this
      rw [List.drop_length]
      unfold compGo
      rw [if_pos hg]
      exact ok_ok (hd acc h)
    | succ n ih =>
      intro i acc hn hi ha h
      have hlt : i < ds.length := by omega
      rw [List.drop_eq_getElem_cons hlt]
      unfold compGo
      rw [if_pos hg]
      obtain ⟨o, e, q⟩ := hs i ds[i] acc (List.getElem?_eq_getElem hlt) h
      rw [e]
      cases o with
      | none => exact ih (i + 1) acc (by omega) (by omega) (by omega) q
      | some v =>
        simp only
        rw [if_pos (small_of (n := acc.length) (by omega))]
        exact ih (i + 1) (acc ++ [v]) (by omega) (by omega) (by simp; omega) q
  have := go ds.length 0 [] (by omega) (Nat.zero_le _) (Nat.le_refl _) h0
  rwa [List.drop_zero] at this
end Wb

/-! W34: lists that rise strictly. -/
namespace Wb
open PySem
theorem inc_eq {l m : List Int} (hl : l.Pairwise (· < ·)) (hm : m.Pairwise (· < ·)) (h : ∀ x, x ∈ l ↔ x ∈ m) : l = m := by
  have p : l.Perm m := perm_of_nodup (hl.imp fun h e => by omega) (hm.imp fun h e => by omega) h
  have e1 := srtI_one p (hl.imp fun h => by omega)
  have e2 := srtI_one (List.Perm.refl m) (hm.imp fun h => by omega)
  rw [e1]
  exact e2.symm
theorem up_strict {ts : List (Int × Int)} (h : Up ts) (nd : ts.Nodup) : ts.Pairwise fun a b => lt2 a b = true := by
  refine (h.and nd).imp fun {a b} ⟨h1, h2⟩ => ?_
  have := le2_iff.mp h1
  refine lt2_iff.mpr ?_
  by_cases e : a.1 = b.1
  · refine .inr ⟨e, ?_⟩
    have : a.2 ≠ b.2 := fun e2 => h2 (Prod.ext e e2)
    omega
  · omega
theorem inc_snd {ts : List (Int × Int)} {a : Int} (h : ts.Pairwise fun a b => lt2 a b = true) : ((ts.filter fun p => decide (p.1 = a)).map (·.2)).Pairwise (· < ·) := by
  refine List.pairwise_map.mpr (List.pairwise_filter.mpr (h.imp fun {p q} hpq hp hq => ?_))
  have := lt2_iff.mp hpq
  have e1 : p.1 = a := of_decide_eq_true hp
  have e2 : q.1 = a := of_decide_eq_true hq
  omega
theorem inc_fst {ts : List (Int × Int)} {a : Int} (h : ts.Pairwise fun a b => lt2 a b = true) : ((ts.filter fun p => decide (p.2 = a)).map (·.1)).Pairwise (· < ·) := by
  refine List.pairwise_map.mpr (List.pairwise_filter.mpr (h.imp fun {p q} hpq hp hq => ?_))
  have := lt2_iff.mp hpq
  have e1 : p.2 = a := of_decide_eq_true hp
  have e2 : q.2 = a := of_decide_eq_true hq
  omega
theorem inc_own {ts : List (Int × Int)} (h : ts.Pairwise fun a b => lt2 a b = true) : ((ts.filter fun p => decide (p.1 = p.2)).map (·.1)).Pairwise (· < ·) := by
  refine List.pairwise_map.mpr (List.pairwise_filter.mpr (h.imp fun {p q} hpq hp hq => ?_))
  have := lt2_iff.mp hpq
  have e1 : p.1 = p.2 := of_decide_eq_true hp
  have e2 : q.1 = q.2 := of_decide_eq_true hq
  omega
/-- the places, as they rise, that a look takes -/
def taken (c : Int → Bool) (i : Nat) : List Int := ((List.range i).map fun b : Nat => (b : Int)).filter c
theorem taken_succ {c : Int → Bool} {i : Nat} : taken c (i + 1) = taken c i ++ (if c i then [(i : Int)] else []) := by
  unfold taken
  rw [List.range_succ, List.map_append, List.filter_append]
  simp [List.filter_cons]
theorem taken_inc {c : Int → Bool} {i : Nat} : (taken c i).Pairwise (· < ·) := by
  refine List.Pairwise.filter _ (List.pairwise_map.mpr (List.pairwise_lt_range.imp fun h => by omega))
theorem mem_taken {c : Int → Bool} {i : Nat} {x : Int} : x ∈ taken c i ↔ (0 ≤ x ∧ x < i) ∧ c x = true := by
  unfold taken
  rw [List.mem_filter, List.mem_map]
  refine ⟨fun ⟨⟨b, hb, e⟩, h⟩ => ?_, fun ⟨h, hc⟩ => ⟨⟨x.toNat, List.mem_range.mpr (by omega), by omega⟩, hc⟩⟩
  have := List.mem_range.mp hb
  exact ⟨by omega, h⟩
end Wb

namespace K03
open PySem Wb
def c_has_tie : List S := [.ret (.cp .isin (.tup [(.var 1), (.var 2)]) (.ix (.var 0) (.lit (D.int 1))))]
def c_outs : List S := [.ret (.con .tup (.comp [2, 3, 4] (.tup [(.name 3), (.name 4)]) (.of (.ix (.var 0) (.lit (D.int 1)))) (some (.cp .eq (.var 3) (.var 1))) (.var 4)))]
def c_ins : List S := [.ret (.con .tup (.comp [2, 3, 4] (.tup [(.name 3), (.name 4)]) (.of (.ix (.var 0) (.lit (D.int 1)))) (some (.cp .eq (.var 4) (.var 1))) (.var 3)))]
def c_loops : List S := [.ret (.con .tup (.comp [1, 2, 3] (.tup [(.name 2), (.name 3)]) (.of (.ix (.var 0) (.lit (D.int 1)))) (some (.cp .eq (.var 2) (.var 3))) (.var 2)))]
def c_law_feed : List S := [.ret (.newL (.disp [(.newL (.cat (.list (.sl (.var 0) none (some (.lit (D.int 63))))) (.disp [(.lit (D.int 7))]))), (.lit (D.int 0)), (.lit (D.int 0)), (.lit (D.int 0))]))]
def c_law_draw : List S := [.asg (.sub (.var 0) (.lit (D.int 3))) (.op .add (.ix (.var 0) (.lit (D.int 3))) (.lit (D.int 1))),
  .ite (.cp .gt (.ix (.var 0) (.lit (D.int 2))) (.lit (D.int 0))) [
    .asg (.name 2) (.op .mod (.ix (.var 0) (.lit (D.int 2))) (.var 1)),
    .asg (.sub (.var 0) (.lit (D.int 2))) (.op .fdiv (.ix (.var 0) (.lit (D.int 2))) (.var 1)),
    .ret (.var 2)] [],
  .asg (.name 3) (.ix (.ix (.var 0) (.lit (D.int 0))) (.op .mod (.ix (.var 0) (.lit (D.int 1))) (.blt .len [(.ix (.var 0) (.lit (D.int 0)))]))),
  .asg (.sub (.var 0) (.lit (D.int 1))) (.op .add (.ix (.var 0) (.lit (D.int 1))) (.lit (D.int 1))),
  .ite (.and (.cp .ge (.var 3) (.op .pow (.lit (D.int 10)) (.lit (D.int 18)))) (.cp .le (.ix (.var 0) (.lit (D.int 1))) (.blt .len [(.ix (.var 0) (.lit (D.int 0)))]))) [
    .asg (.sub (.var 0) (.lit (D.int 2))) (.op .fdiv (.var 3) (.var 1)),
    .ret (.op .mod (.var 3) (.var 1))] [],
  .asg (.name 4) (.op .mod (.op .mul (.op .add (.op .mod (.var 3) (.lit (D.int 1000003))) (.op .mul (.lit (D.int 5003)) (.ix (.var 0) (.lit (D.int 3))))) (.lit (D.int 48271))) (.lit (D.int 2147483629))),
  .asg (.name 4) (.op .mod (.op .mul (.op .add (.op .fdiv (.var 4) (.lit (D.int 13))) (.op .mul (.op .mul (.lit (D.int 7919)) (.ix (.var 0) (.lit (D.int 3)))) (.ix (.var 0) (.lit (D.int 3))))) (.lit (D.int 69621))) (.lit (D.int 2147483587))),
  .ret (.op .mod (.op .fdiv (.var 4) (.lit (D.int 64))) (.var 1))]
def c_law_masked : List S := [.asg (.name 2) (.call 5 [(.var 0), (.lit (D.int 3))]),
  .asg (.name 3) (.newL (.disp [])),
  .for_ (.name 4) (.rng (.lit (D.int 0)) (.var 1)) [
    .asg (.name 5) (.call 5 [(.var 0), (.op .shl (.lit (D.int 1)) (.var 1))]),
    .ite (.cp .gt (.var 2) (.lit (D.int 0))) [
      .asg (.name 5) (.op .band (.var 5) (.call 5 [(.var 0), (.op .shl (.lit (D.int 1)) (.var 1))]))] [],
    .ex (.ext (.var 3) (.comp [6, 7] (.name 7) (.rng (.lit (D.int 0)) (.var 1)) (some (.and (.cp .eq (.op .band (.op .shr (.var 5) (.var 7)) (.lit (D.int 1))) (.lit (D.int 1))) (.or (.cp .lt (.var 2) (.lit (D.int 2))) (.cp .ne (.var 4) (.var 7))))) (.tup [(.var 4), (.var 7)])))],
  .ret (.var 3)]
def c_law_web : List S := [.asg (.name 2) (.ix (.newL (.disp [(.var 1), (.op .add (.lit (D.int 1)) (.call 5 [(.var 0), (.var 1)])), (.call 5 [(.var 0), (.op .add (.var 1) (.lit (D.int 1)))])])) (.call 5 [(.var 0), (.lit (D.int 3))])),
  .asg (.name 3) (.call 5 [(.var 0), (.lit (D.int 7))]),
  .ite (.cp .eq (.var 3) (.lit (D.int 0))) [
    .asg (.name 5) (.newL (.comp [8, 4] (.name 4) (.rng (.lit (D.int 0)) (.var 2)) none (.tup [(.var 4), (.op .mod (.op .add (.var 4) (.lit (D.int 1))) (.var 2))])))] [
    .ite (.cp .eq (.var 3) (.lit (D.int 1))) [
      .asg (.name 5) (.newL (.disp [])),
      .for_ (.name 4) (.rng (.lit (D.int 0)) (.var 2)) [
        .ex (.ext (.var 5) (.comp [8, 9] (.name 9) (.rng (.op .add (.var 4) (.lit (D.int 1))) (.var 2)) none (.tup [(.var 4), (.var 9)])))]] [
      .ite (.cp .eq (.var 3) (.lit (D.int 2))) [
        .asg (.name 5) (.newL (.comp [8, 4] (.name 4) (.rng (.lit (D.int 0)) (.op .sub (.var 2) (.lit (D.int 1)))) none (.ix (.newL (.disp [(.tup [(.var 4), (.op .add (.var 4) (.lit (D.int 1)))]), (.tup [(.op .add (.var 4) (.lit (D.int 1))), (.var 4)])])) (.call 5 [(.var 0), (.lit (D.int 2))]))))] [
        .ite (.cp .eq (.var 3) (.lit (D.int 3))) [
          .asg (.name 6) (.op .fdiv (.op .add (.var 2) (.lit (D.int 1))) (.lit (D.int 2))),
          .asg (.name 5) (.newL (.comp [8, 4] (.name 4) (.rng (.lit (D.int 0)) (.var 6)) none (.tup [(.var 4), (.op .mod (.op .add (.var 4) (.lit (D.int 1))) (.var 6))]))),
          .asg (.name 5) (.newL (.cat (.ofl (.var 5)) (.comp [8, 4] (.name 4) (.rng (.lit (D.int 0)) (.op .sub (.var 2) (.var 6))) none (.tup [(.op .add (.var 6) (.var 4)), (.op .add (.var 6) (.op .mod (.op .add (.var 4) (.lit (D.int 1))) (.op .sub (.var 2) (.var 6))))]))))] [
          .asg (.name 5) (.call 6 [(.var 0), (.var 2)])]]]],
  .ite (.and (.cp .gt (.var 2) (.lit (D.int 0))) (.cp .eq (.call 5 [(.var 0), (.lit (D.int 2))]) (.lit (D.int 0)))) [
    .asg (.name 7) (.tup [(.call 5 [(.var 0), (.var 2)]), (.call 5 [(.var 0), (.var 2)])]),
    .asg (.name 5) (.newL (.cat (.comp [8, 10] (.name 10) (.of (.var 5)) (some (.cp .ne (.var 10) (.var 7))) (.var 10)) (.rep (.disp [(.var 7)]) (.blt .int [(.cp .notin (.var 7) (.var 5))]))))] [],
  .ret (.tup [(.var 2), (.con .tup (.sortedSet (.ofl (.var 5))))])]
def c_law_wide : List S := [.asg (.name 1) (.newL (.cat (.comp [2, 3] (.name 3) (.rng (.lit (D.int 0)) (.var 0)) none (.tup [(.var 3), (.op .mod (.op .mul (.var 3) (.lit (D.int 7))) (.var 0))])) (.disp [(.tup [(.lit (D.int 2)), (.lit (D.int 10))]), (.tup [(.lit (D.int 10)), (.lit (D.int 2))]), (.tup [(.lit (D.int 9)), (.lit (D.int 11))]), (.tup [(.lit (D.int 11)), (.lit (D.int 9))]), (.tup [(.lit (D.int 11)), (.lit (D.int 11))])]))),
  .ret (.tup [(.var 0), (.con .tup (.sortedSet (.ofl (.var 1))))])]
def c_law_row_right : List S := [.par3 2 3 4 (.newL (.disp [])) (.newL (.disp [])) (.newL (.disp [])),
  .for_ (.name 5) (.rng (.lit (D.int 0)) (.ix (.var 0) (.lit (D.int 0)))) [
    .ite (.cp .ne (.blt .repr [(.call 0 [(.var 0), (.var 1), (.var 5)])]) (.blt .repr [(.cp .isin (.tup [(.var 1), (.var 5)]) (.ix (.var 0) (.lit (D.int 1))))])) [
      .ret (.lit (D.bl false))] [],
    .ite (.cp .isin (.tup [(.var 1), (.var 5)]) (.ix (.var 0) (.lit (D.int 1)))) [
      .ex (.meth .append (.var 2) [(.var 5)])] [],
    .ite (.cp .isin (.tup [(.var 5), (.var 1)]) (.ix (.var 0) (.lit (D.int 1)))) [
      .ex (.meth .append (.var 3) [(.var 5)])] [],
    .ite (.cp .isin (.tup [(.var 5), (.var 5)]) (.ix (.var 0) (.lit (D.int 1)))) [
      .ex (.meth .append (.var 4) [(.var 5)])] []],
  .asg (.name 6) (.newL (.disp [(.call 1 [(.var 0), (.var 1)]), (.call 2 [(.var 0), (.var 1)]), (.call 3 [(.var 0)])])),
  .ret (.cp .eq (.blt .repr [(.var 6)]) (.blt .repr [(.newL (.disp [(.con .tup (.of (.var 2))), (.con .tup (.of (.var 3))), (.con .tup (.of (.var 4)))]))]))]
def c_law : List S := [.asg (.name 1) (.call 4 [(.var 0)]),
  .for_ (.name 2) (.ofL (.cat (.comp [4, 5] (.name 5) (.rng (.lit (D.int 0)) (.lit (D.int 6))) none (.call 7 [(.var 1), (.lit (D.int 6))])) (.disp [(.call 8 [(.op .add (.lit (D.int 12)) (.call 5 [(.var 1), (.lit (D.int 4))]))]), (.tup [(.lit (D.int 0)), (.tup [])]), (.tup [(.lit (D.int 1)), (.tup [(.tup [(.lit (D.int 0)), (.lit (D.int 0))])])])]))) [
    .asg (.name 3) (.blt .repr [(.var 2)]),
    .ite (.or (.cp .isin (.lit (D.bl false)) (.newL (.comp [4, 6] (.name 6) (.rng (.lit (D.int 0)) (.ix (.var 2) (.lit (D.int 0)))) none (.call 9 [(.var 2), (.var 6)])))) (.cp .ne (.blt .repr [(.var 2)]) (.var 3))) [
      .ret (.lit (D.bl false))] [],
    .ite (.cp .ne (.blt .repr [(.call 3 [(.var 2)])]) (.blt .repr [(.con .tup (.comp [4, 6, 7] (.tup [(.name 6), (.name 7)]) (.of (.ix (.var 2) (.lit (D.int 1)))) (some (.cp .eq (.var 6) (.var 7))) (.var 6)))])) [
      .ret (.lit (D.bl false))] []],
  .ret (.lit (D.bl true))]
def PP : List Fn := [⟨3, 3, c_has_tie⟩, ⟨2, 5, c_outs⟩, ⟨2, 5, c_ins⟩, ⟨1, 4, c_loops⟩, ⟨1, 1, c_law_feed⟩, ⟨2, 5, c_law_draw⟩, ⟨2, 8, c_law_masked⟩, ⟨2, 11, c_law_web⟩, ⟨1, 4, c_law_wide⟩, ⟨2, 7, c_law_row_right⟩, ⟨1, 8, c_law⟩]
def feedL (c : Nat) (a l t : Int) : List D := [.ref c, .int a, .int l, .int t]
structure Fd (S : Store) (f c : Nat) (cs : List Int) (a l t : Int) : Prop where
  ne : c ≠ f
  some_ : cs ≠ []
  cells : S[c]? = some (.lst (cs.map .int))
  feed : S[f]? = some (.lst (feedL c a l t))
/-- T: at most so many were drawn -/
def Fed (S : Store) (f c : Nat) (T : Nat) : Prop := ∃ cs a l t, 0 ≤ a ∧ 0 ≤ t ∧ t ≤ (T : Int) ∧ Fd S f c cs a l t
section
variable {S S1 : Store} {f c : Nat} {cs : List Int} {a l t u : Int}
theorem Fd.turn (h : Fd S f c cs a l t) : ixD S (.ref f) (.int 3) = some (.int t) := by simp only [ixD, h.feed]; rfl
theorem Fd.left (h : Fd S f c cs a l t) : ixD S (.ref f) (.int 2) = some (.int l) := by simp only [ixD, h.feed]; rfl
theorem Fd.at_ (h : Fd S f c cs a l t) : ixD S (.ref f) (.int 1) = some (.int a) := by simp only [ixD, h.feed]; rfl
theorem Fd.cel (h : Fd S f c cs a l t) : ixD S (.ref f) (.int 0) = some (.ref c) := by simp only [ixD, h.feed]; rfl
theorem Fd.put {a' l' t' : Int} (h : Fd S f c cs a l t) : Fd (S.set f (.lst (feedL c a' l' t'))) f c cs a' l' t' := ⟨h.ne, h.some_, by rw [set_other h.ne]; exact h.cells, set_self h.feed⟩
theorem Fd.sTurn (h : Fd S f c cs a l t) : setD S (.ref f) (.int 3) (.int u) = some (S.set f (.lst (feedL c a l u))) := by simp only [setD, h.feed]; rfl
theorem Fd.sLeft (h : Fd S f c cs a l t) : setD S (.ref f) (.int 2) (.int u) = some (S.set f (.lst (feedL c a u t))) := by simp only [setD, h.feed]; rfl
theorem Fd.sAt (h : Fd S f c cs a l t) : setD S (.ref f) (.int 1) (.int u) = some (S.set f (.lst (feedL c u l t))) := by simp only [setD, h.feed]; rfl
theorem Fd.len (h : Fd S f c cs a l t) : bltD S .len [.ref c] = some (.int cs.length) := by simp only [bltD, h.cells, List.length_map]
theorem Fed.more {T T' : Nat} (h : Fed S f c T) (hT : T ≤ T') : Fed S f c T' := by
  obtain ⟨cs, a, l, t, h0, t0, t1, h1⟩ := h
  exact ⟨cs, a, l, t, h0, t0, by omega, h1⟩
theorem Fed.step {T : Nat} (h : Fed S f c T) (s : Step f S S1) (e : S1[f]? = S[f]?) : Fed S1 f c T := by
  obtain ⟨cs, a, l, t, h0, t0, t1, h1⟩ := h
  exact ⟨cs, a, l, t, h0, t0, t1, h1.ne, h1.some_, s.get h1.cells h1.ne, e.trans h1.feed⟩
theorem Fed.keep {T : Nat} (h : Fed S f c T) (hl : S.length ≤ S1.length) (hk : ∀ n, n < S.length → S1[n]? = S[n]?) : Fed S1 f c T := by
  obtain ⟨cs, a, l, t, h0, t0, t1, h1⟩ := h
  exact ⟨cs, a, l, t, h0, t0, t1, h1.ne, h1.some_, by rw [hk _ (at_lt h1.cells)]; exact h1.cells, by rw [hk _ (at_lt h1.feed)]; exact h1.feed⟩
end
theorem Fed.keepLow {S2 s : Store} {f c T L : Nat} (h : Fed s f c T) (hf : f < L) (hc : c < L) (hk : ∀ n, n < L → S2[n]? = s[n]?) : Fed S2 f c T := by
  obtain ⟨cs, a, l, t, h0, t0, t1, h1⟩ := h
  exact ⟨cs, a, l, t, h0, t0, t1, h1.ne, h1.some_, by rw [hk _ hc]; exact h1.cells, by rw [hk _ hf]; exact h1.feed⟩
theorem draw_ok {F k f c T : Nat} {m : Int} {S : Store} (hT : T ≤ 1000000) (hf : Fed S f c T) (h0 : 0 < m) (h1 : m < 1000000) : Ok (call PP F (k + 1) 5 [.ref f, .int m] S) fun d S' => ∃ v, d = .int v ∧ 0 ≤ v ∧ v < m ∧ Fed S' f c (T + 1) ∧ Step f S S' := by
  obtain ⟨cs, a, l, t, ha, t0, t1, hF⟩ := hf
  have fin : ∀ (v : Int) (S1 : Store) (a' l' : Int), 0 ≤ v → v < m → 0 ≤ a' → Fd S1 f c cs a' l' (t + 1) → Step f S S1 → Ok (gc S (.int v) S1) fun d S' => ∃ v, d = .int v ∧ 0 ≤ v ∧ v < m ∧ Fed S' f c (T + 1) ∧ Step f S S' := fun v S1 a' l' v0 v1 ha' g st =>
    gc_any rfl st.len fun S2 hl ho => ⟨v, rfl, v0, v1, ⟨cs, a', l', t + 1, ha', by omega, by omega, g.ne, g.some_, by rw [ho c (at_lt hF.cells)]; exact g.cells, by rw [ho f (at_lt hF.feed)]; exact g.feed⟩, ⟨hl, fun n hn e => (ho n hn).trans (st.old n hn e)⟩⟩
  refine ok_call rfl rfl ?_
  show Ok (evSs (call PP F k) F c_law_draw [some (.ref f), some (.int m), none, none, none] S) _
  have hm : (decide (0 < m) && decide (m < 1073741824)) = true := by simp only [Bool.and_eq_true, decide_eq_true_eq]; omega
  have dm : decide (0 < m) = true := decide_eq_true h0
  unfold c_law_draw
  refine ok_asub ?_
  simp only [evE, evT, evEs, evO, evL, ok_bindI, ok_okI, ok_optI, look, List.getElem?_cons_zero, List.getElem?_cons_succ, List.set_cons_zero, List.set_cons_succ, Option.some.injEq, exists_eq_left', Option.bind_some, Option.map_some, asBool, ltD, eqD, hF.turn, opD]
  refine ⟨_, hF.sTurn, ?_⟩
  have g1 : Fd _ f c cs a l (t + 1) := hF.put
  have p1 : Step f S (S.set f (.lst (feedL c a l (t + 1)))) := Step.put
  generalize S.set f (.lst (feedL c a l (t + 1))) = S1 at g1 p1
  refine ok_when ?_
  simp only [evE, evT, evEs, evO, evL, ok_bindI, ok_okI, ok_optI, look, List.getElem?_cons_zero, List.getElem?_cons_succ, List.set_cons_zero, List.set_cons_succ, Option.some.injEq, exists_eq_left', Option.bind_some, Option.map_some, asBool, ltD, eqD, g1.left, cpD]
  by_cases hl : 0 < l
  · rw [if_pos (decide_eq_true hl)]
    refine ok_asg ?_
    simp only [evE, evT, evEs, evO, evL, ok_bindI, ok_okI, ok_optI, look, List.getElem?_cons_zero, List.getElem?_cons_succ, List.set_cons_zero, List.set_cons_succ, Option.some.injEq, exists_eq_left', Option.bind_some, Option.map_some, asBool, ltD, eqD, g1.left, opD, dm, if_true]
    refine ok_asub ?_
    simp only [evE, evT, evEs, evO, evL, ok_bindI, ok_okI, ok_optI, look, List.getElem?_cons_zero, List.getElem?_cons_succ, List.set_cons_zero, List.set_cons_succ, Option.some.injEq, exists_eq_left', Option.bind_some, Option.map_some, asBool, ltD, eqD, g1.left, opD, hm, if_true]
    refine ⟨_, g1.sLeft, ok_ret ?_⟩
    simp only [evE, evT, evEs, evO, evL, ok_bindI, ok_okI, ok_optI, look, List.getElem?_cons_zero, List.getElem?_cons_succ, List.set_cons_zero, List.set_cons_succ, Option.some.injEq, exists_eq_left', Option.bind_some, Option.map_some, asBool, ltD, eqD]
    exact fin _ _ _ _ (Int.emod_nonneg _ (by omega)) (Int.emod_lt_of_pos _ h0) ha g1.put (p1.trans Step.put)
  · rw [if_neg (by simpa using hl)]
    have hp : (0 : Int) < cs.length := by
      have := List.length_pos_iff.mpr hF.some_
      omega
    have e1 : ixD S1 (.ref c) (.int (a % (cs.length : Int))) = some (.int (cs[(a % (cs.length : Int)).toNat]'(by
      have := Int.emod_lt_of_pos a hp
      have := Int.emod_nonneg a (b := (cs.length : Int)) (by omega)
      omega))) := by
      simp only [ixD, g1.cells]
      rw [atD_in (Int.emod_nonneg _ (by omega)) (by rw [List.length_map]; exact Int.emod_lt_of_pos _ hp)]
      simp
    refine ok_asg ?_
    simp only [evE, evT, evEs, evO, evL, ok_bindI, ok_okI, ok_optI, look, List.getElem?_cons_zero, List.getElem?_cons_succ, List.set_cons_zero, List.set_cons_succ, Option.some.injEq, exists_eq_left', Option.bind_some, Option.map_some, asBool, ltD, eqD, g1.cel, g1.at_, g1.len, opD, decide_eq_true hp, if_true, e1]
    generalize cs[(a % (cs.length : Int)).toNat]'_ = x
    refine ok_asub ?_
    simp only [evE, evT, evEs, evO, evL, ok_bindI, ok_okI, ok_optI, look, List.getElem?_cons_zero, List.getElem?_cons_succ, List.set_cons_zero, List.set_cons_succ, Option.some.injEq, exists_eq_left', Option.bind_some, Option.map_some, asBool, ltD, eqD, opD, g1.at_]
    refine ⟨_, g1.sAt, ?_⟩
    have g2 : Fd _ f c cs (a + 1) l (t + 1) := g1.put
    have p2 : Step f S (S1.set f (.lst (feedL c (a + 1) l (t + 1)))) := p1.trans Step.put
    generalize S1.set f (.lst (feedL c (a + 1) l (t + 1))) = S2 at g2 p2
    have tail : Ok (evSs (call PP F k) F (c_law_draw.drop 5) [some (.ref f), some (.int m), none, some (.int x), none] S2) (fun o s1 => match o with
      | .rt d => Ok (gc S d s1) fun d S' => ∃ v, d = .int v ∧ 0 ≤ v ∧ v < m ∧ Fed S' f c (T + 1) ∧ Step f S S'
      | .nx _ => Ok (gc S .non s1) fun d S' => ∃ v, d = .int v ∧ 0 ≤ v ∧ v < m ∧ Fed S' f c (T + 1) ∧ Step f S S'
      | _ => False) := by
      show Ok (evSs (call PP F k) F [_, _, _] _ S2) _
      have d1 : ∀ u : Int, okMul 5003 u = true := fun u => okMul_l (by decide)
      have d3 : ∀ u : Int, okMul u 48271 = true := fun u => okMul_r (by decide)
      have d4 : ∀ u : Int, okMul 7919 u = true := fun u => okMul_l (by decide)
      have d5 : ∀ u : Int, okMul u 69621 = true := fun u => okMul_r (by decide)
      have b1 : (decide ((0 : Int) < 1000003)) = true := by decide
      have b2 : (decide ((0 : Int) < 2147483629)) = true := by decide
      have b3 : (decide ((0 : Int) < 2147483587)) = true := by decide
      have b4 : (decide ((0 : Int) < 64) && decide ((64 : Int) < 1073741824)) = true := by decide
      have b5 : (decide ((0 : Int) < 13) && decide ((13 : Int) < 1073741824)) = true := by decide
      have d6 : ∀ u : Int, okMul (7919 * (t + 1)) u = true := fun u => okMul_l (by omega)
      refine ok_asg ?_
      simp only [evE, evT, evEs, evO, evL, ok_bindI, ok_okI, ok_optI, look, List.getElem?_cons_zero, List.getElem?_cons_succ, List.set_cons_zero, List.set_cons_succ, Option.some.injEq, exists_eq_left', Option.bind_some, Option.map_some, asBool, ltD, eqD, opD, g2.turn, d1, d3, b1, b2, if_true]
      refine ok_asg ?_
      simp only [evE, evT, evEs, evO, evL, ok_bindI, ok_okI, ok_optI, look, List.getElem?_cons_zero, List.getElem?_cons_succ, List.set_cons_zero, List.set_cons_succ, Option.some.injEq, exists_eq_left', Option.bind_some, Option.map_some, asBool, ltD, eqD, opD, g2.turn, d4, d5, d6, b3, b5, if_true]
      refine ok_ret ?_
      simp only [evE, evT, evEs, evO, evL, ok_bindI, ok_okI, ok_optI, look, List.getElem?_cons_zero, List.getElem?_cons_succ, List.set_cons_zero, List.set_cons_succ, Option.some.injEq, exists_eq_left', Option.bind_some, Option.map_some, asBool, ltD, eqD, opD, b4, dm, if_true]
      exact fin _ _ _ _ (Int.emod_nonneg _ (by omega)) (Int.emod_lt_of_pos _ h0) (by omega) g2 p2
    refine ok_when ?_
    have b1 : (decide ((0 : Int) ≤ 18) && decide ((18 : Int) ≤ 1000000) && decide ((10 : Int).natAbs < 2 ^ 64)) = true := by decide
    simp only [evE, evT, evEs, evO, evL, ok_bindI, ok_okI, ok_optI, look, List.getElem?_cons_zero, List.getElem?_cons_succ, List.set_cons_zero, List.set_cons_succ, Option.some.injEq, exists_eq_left', Option.bind_some, Option.map_some, asBool, ltD, eqD, opD, cpD, b1, if_true, g2.cel, g2.len, g2.at_]
    by_cases h5 : (10 : Int) ^ (18 : Int).toNat ≤ x
    · simp only [decide_eq_true h5, if_true, evE, evT, evEs, evO, evL, ok_bindI, ok_okI, ok_optI, look, List.getElem?_cons_zero, List.getElem?_cons_succ, List.set_cons_zero, List.set_cons_succ, Option.some.injEq, exists_eq_left', Option.bind_some, Option.map_some, asBool, ltD, eqD, opD, cpD, g2.cel, g2.len, g2.at_]
      by_cases h6 : a + 1 ≤ (cs.length : Int)
      · rw [if_pos (decide_eq_true h6)]
        refine ok_asub ?_
        simp only [evE, evT, evEs, evO, evL, ok_bindI, ok_okI, ok_optI, look, List.getElem?_cons_zero, List.getElem?_cons_succ, List.set_cons_zero, List.set_cons_succ, Option.some.injEq, exists_eq_left', Option.bind_some, Option.map_some, asBool, ltD, eqD, opD, hm, if_true]
        refine ⟨_, g2.sLeft, ok_ret ?_⟩
        simp only [evE, evT, evEs, evO, evL, ok_bindI, ok_okI, ok_optI, look, List.getElem?_cons_zero, List.getElem?_cons_succ, List.set_cons_zero, List.set_cons_succ, Option.some.injEq, exists_eq_left', Option.bind_some, Option.map_some, asBool, ltD, eqD, opD, dm, if_true]
        exact fin _ _ _ _ (Int.emod_nonneg _ (by omega)) (Int.emod_lt_of_pos _ h0) (by omega) g2.put (p2.trans Step.put)
      · rw [if_neg (by simpa using h6)]
        exact tail
    · simp only [decide_eq_false h5, Bool.false_eq_true, if_false, evE, evT, evEs, evO, evL, ok_bindI, ok_okI, ok_optI, look, List.getElem?_cons_zero, List.getElem?_cons_succ, List.set_cons_zero, List.set_cons_succ, Option.some.injEq, exists_eq_left', Option.bind_some, Option.map_some, asBool, ltD, eqD]
      exact tail
theorem feed_ok {F k : Nat} (ns : List Int) : Ok (call PP F (k + 1) 4 [.fix (ns.map .int)] []) fun d S' => d = .ref 1 ∧ Fed S' 1 0 0 ∧ S'.length = 2 := by
  refine ok_call rfl rfl ?_
  show Ok (evSs (call PP F k) F c_law_feed [some (.fix (ns.map .int))] []) _
  unfold c_law_feed
  refine ok_ret ?_
  simp only [evE, evT, evEs, evO, evL, ok_bindI, ok_okI, ok_optI, look, List.getElem?_cons_zero, List.getElem?_cons_succ, List.set_cons_zero, List.set_cons_succ, Option.some.injEq, exists_eq_left', Option.bind_some, Option.map_some, asBool, ltD, eqD, Wb.alloc, seqAt, cut_map, show ∀ u : D, small [u].length = true from fun _ => rfl, heldL, Ls.kd, decide_true, Bool.true_or, Bool.true_and, if_true]
  have hc : (cut ns none (some 63)).length ≤ 63 := by
    unfold cut
    rw [List.length_take]
    have e1 : HT.sIx ns.length 0 none = 0 := rfl
    have e2 : HT.sIx ns.length ns.length (some (63 : Int)) ≤ 63 := by
      have : ((63 : Nat) : Int) = 63 := rfl
      rw [← this, HT.sIx_nat]
      omega
    rw [e1]
    omega
  generalize cut ns none (some 63) = cs at hc
  rw [if_pos (small_of (by simp; omega))]
  simp only [evE, evT, evEs, evO, evL, ok_bindI, ok_okI, ok_optI, look, List.getElem?_cons_zero, List.getElem?_cons_succ, List.set_cons_zero, List.set_cons_succ, Option.some.injEq, exists_eq_left', Option.bind_some, Option.map_some, asBool, ltD, eqD, show ∀ u v w x : D, small [u, v, w, x].length = true from fun _ _ _ _ => rfl, if_true]
  refine ⟨.ref 1, [.lst ((cs ++ [7]).map .int), .lst (feedL 0 0 0 0)], ?_, rfl, ⟨cs ++ [7], 0, 0, 0, Int.le_refl _, Int.le_refl _, Int.le_refl _, by decide, by simp, rfl, rfl⟩, rfl⟩
  rw [show cs.map D.int ++ [D.int 7] = (cs ++ [7]).map D.int by simp]
  rfl
def webD (n : Int) (ts : List (Int × Int)) : D := .tup [.int n, .tup (ts.map ofPair)]
def In (n : Int) (ts : List (Int × Int)) : Prop := ∀ p ∈ ts, (0 ≤ p.1 ∧ p.1 < n) ∧ 0 ≤ p.2 ∧ p.2 < n
theorem under_pairs (l : List (Int × Int)) (k : Nat) : D.unders k (l.map ofPair) = true := by
  induction l with
  | nil => rfl
  | cons p l ih => show (D.under k (ofPair p) && D.unders k (l.map ofPair)) = true; rw [ih]; rfl
theorem two (u v : D) : small [u, v].length = true := rfl
theorem In.app {n : Int} {ps qs : List (Int × Int)} (h : In n ps) (g : In n qs) : In n (ps ++ qs) := fun p hp => by
  rcases List.mem_append.mp hp with z | z
  · exact h p z
  · exact g p z
/-- a list of pairs within n lies at q -/
structure WS (S : Store) (f c : Nat) (T q : Nat) (n : Int) (B : Nat) (s : Store) : Prop where
  fed : Fed s f c T
  st : Step f S s
  q0 : S.length ≤ q
  fl : f < S.length
  cl : c < S.length
  ties : ∃ ts : List (Int × Int), s[q]? = some (.lst (ts.map ofPair)) ∧ ts.length ≤ B ∧ In n ts
section
variable {S s : Store} {f c T q B : Nat} {n : Int}
theorem WS.next {s1 : Store} {T' : Nat} (h : WS S f c T q n B s) (g : Fed s1 f c T') (st : Step f s s1) : WS S f c T' q n B s1 :=
  ⟨g, h.st.trans st, h.q0, h.fl, h.cl, let ⟨ts, a, b, d⟩ := h.ties; ⟨ts, st.get a (by have := h.q0; have := h.fl; omega), b, d⟩⟩
theorem WS.more {T' B' : Nat} (h : WS S f c T q n B s) (hT : T ≤ T') (hb : B ≤ B') : WS S f c T' q n B' s := ⟨h.fed.more hT, h.st, h.q0, h.fl, h.cl, let ⟨ts, a, b, d⟩ := h.ties; ⟨ts, a, Nat.le_trans b hb, d⟩⟩
/-- more pairs behind it -/
theorem WS.ext {ts us : List (Int × Int)} (h : WS S f c T q n B s) (hq : s[q]? = some (.lst (ts.map ofPair))) (hin : In n ts) (hu : In n us) {B' : Nat} (hl : ts.length + us.length ≤ B') : WS S f c T q n B' (s.set q (.lst (ts.map ofPair ++ us.map ofPair))) := by
  obtain ⟨cs, a, l, t, ha, t0, t1, hF⟩ := h.fed
  have e1 : f ≠ q := by have := h.q0; have := h.fl; omega
  have e2 : c ≠ q := by have := h.q0; have := h.cl; omega
  refine ⟨⟨cs, a, l, t, ha, t0, t1, hF.ne, hF.some_, by rw [set_other e2]; exact hF.cells, by rw [set_other e1]; exact hF.feed⟩, Step.young h.q0 h.st, h.q0, h.fl, h.cl, ts ++ us, ?_, by simpa using hl, hin.app hu⟩
  rw [set_self hq]; simp
end
theorem masked_ok {F k f c T : Nat} {n : Int} {S : Store} (hT : T ≤ 900000) (hf : Fed S f c T) (hfl : f < S.length) (hcl : c < S.length) (hn : 0 ≤ n ∧ n ≤ 6) : Ok (call PP F (k + 2) 6 [.ref f, .int n] S) fun d S' => ∃ q, d = .ref q ∧ WS S f c (T + 20) q n 36 S' := by
  refine ok_call rfl rfl ?_
  show Ok (evSs (call PP F (k + 1)) F c_law_masked [some (.ref f), some (.int n), none, none, none, none, none, none] S) _
  unfold c_law_masked
  refine ok_asg ?_
  simp only [evE, evT, evEs, evO, evL, ok_bindI, ok_okI, ok_optI, look, List.getElem?_cons_zero, List.getElem?_cons_succ, List.set_cons_zero, List.set_cons_succ, Option.some.injEq, exists_eq_left', Option.bind_some, Option.map_some, asBool, ltD, eqD]
  refine ok_imp (draw_ok (m := 3) (by omega) hf (by omega) (by omega)) fun d s1 ⟨way, e, w0, w1, g1, g2⟩ => ?_
  subst e
  refine ok_asg ?_
  simp only [evE, evT, evEs, evO, evL, ok_bindI, ok_okI, ok_optI, look, List.getElem?_cons_zero, List.getElem?_cons_succ, List.set_cons_zero, List.set_cons_succ, Option.some.injEq, exists_eq_left', Option.bind_some, Option.map_some, asBool, ltD, eqD, show small ([] : List D).length = true from rfl, if_true, Wb.alloc]
  have ws : WS S f c (T + 1) s1.length n 0 (s1 ++ [.lst []]) := ⟨g1.step (Step.push (o := .lst [])) (List.getElem?_append_left (Nat.lt_of_lt_of_le hfl g2.len)), g2.trans Step.push, g2.len, hfl, hcl, [], push_new, Nat.le_refl _, fun p hp => by cases hp⟩
  refine ok_for ?_
  simp only [evIt, evE, evT, evEs, evO, evL, ok_bindI, ok_okI, ok_optI, look, List.getElem?_cons_zero, List.getElem?_cons_succ, List.set_cons_zero, List.set_cons_succ, Option.some.injEq, exists_eq_left', Option.bind_some, Option.map_some, asBool, ltD, eqD, rngOk_of (a := 0) (b := n) (by omega), if_true]
  have pw : (0 : Int) < 1 * 2 ^ n.toNat ∧ 1 * 2 ^ n.toNat < (1000000 : Int) := by
    have hp : (2 : Nat) ^ n.toNat ≤ 2 ^ 6 := Nat.pow_le_pow_right (by omega) (by omega)
    have hp0 : 0 < (2 : Nat) ^ n.toNat := Nat.pow_pos (by omega)
    have e : ((2 ^ n.toNat : Nat) : Int) = (2 : Int) ^ n.toNat := by push_cast; rfl
    rw [Int.one_mul, ← e]
    omega
  have shl : (decide (0 ≤ n) && decide (n ≤ 1000000) && decide ((1 : Int).natAbs < 2 ^ 64)) = true := by simp only [Bool.and_eq_true, decide_eq_true_eq]; exact ⟨⟨by omega, by omega⟩, by decide⟩
  refine ok_loop (fun i r s => ∃ x y, r = [some (.ref f), some (.int n), some (.int way), some (.ref s1.length), x, y, none, none] ∧ WS S f c (T + 1 + 2 * i) s1.length n (6 * i) s) ⟨none, none, rfl, ws⟩ ?_ ?_
  · rintro i d r s hd ⟨x, y, rfl, h⟩
    obtain ⟨rfl, hi⟩ := rng_at hd
    simp only [asT, Res.bind_ok, List.set_cons_zero, List.set_cons_succ, Int.zero_add]
    refine ok_asg ?_
    simp only [evE, evT, evEs, evO, evL, ok_bindI, ok_okI, ok_optI, look, List.getElem?_cons_zero, List.getElem?_cons_succ, List.set_cons_zero, List.set_cons_succ, Option.some.injEq, exists_eq_left', Option.bind_some, Option.map_some, asBool, ltD, eqD, opD, shl, if_true]
    refine ok_imp (draw_ok (by omega) h.fed pw.1 pw.2) fun d s2 ⟨mk, e, _, _, g3, g4⟩ => ?_
    subst e
    have h2 := h.next g3 g4
    -- the pairs of one row
    have fin : ∀ (s3 : Store) (mk : Int) (Q : Out → Store → Prop), WS S f c (T + 1 + 2 * i + 2) s1.length n (6 * i) s3 → (∀ s4, WS S f c (T + 1 + 2 * (i + 1)) s1.length n (6 * (i + 1)) s4 → Q (.nx [some (.ref f), some (.int n), some (.int way), some (.ref s1.length), some (.int (i : Int)), some (.int mk), none, none]) s4) → Ok (evSs (call PP F (k + 1)) F ((match c_law_masked.getD 2 .pass with
        | .for_ _ _ b => b
        | _ => []).drop 2) [some (.ref f), some (.int n), some (.int way), some (.ref s1.length), some (.int (i : Int)), some (.int mk), none, none] s3) Q := by
      intro s3 mk Q h3 hQ
      show Ok (evSs _ F [_] _ s3) _
      obtain ⟨ts, t1, t2, t3⟩ := h3.ties
      refine ok_extend rfl t1 ?_
      simp only [evE, evT, evEs, evO, evL, ok_bindI, ok_okI, ok_optI, look, List.getElem?_cons_zero, List.getElem?_cons_succ, List.set_cons_zero, List.set_cons_succ, Option.some.injEq, exists_eq_left', Option.bind_some, Option.map_some, asBool, ltD, eqD, evIt, rngOk_of (a := 0) (b := n) (by omega), if_true]
      refine ok_comp (fun j acc s => s = s3 ∧ ∃ ps : List (Int × Int), acc = ps.map ofPair ∧ ps.length ≤ j ∧ In n ps) (by rw [rng_len]; omega) ⟨rfl, [], rfl, Nat.le_refl _, fun p hp => by cases hp⟩ ?_ ?_
      · rintro j d acc s hd ⟨rfl, ps, rfl, hl, hin⟩
        obtain ⟨rfl, hj⟩ := rng_at hd
        have keep : In n (ps ++ [((i : Int), (j : Int))]) := hin.app fun p hp => by
          rw [List.mem_singleton.mp hp]
          show (0 ≤ (i : Int) ∧ (i : Int) < n) ∧ 0 ≤ (j : Int) ∧ (j : Int) < n
          omega
        have yes : ∃ qs : List (Int × Int), ps.map ofPair ++ [D.tup [D.int (i : Int), D.int (j : Int)]] = qs.map ofPair ∧ qs.length ≤ j + 1 ∧ In n qs := ⟨ps ++ [((i : Int), (j : Int))], by simp [ofPair], by simp; omega, keep⟩
        have no : ∃ qs : List (Int × Int), ps.map ofPair = qs.map ofPair ∧ qs.length ≤ j + 1 ∧ In n qs := ⟨ps, rfl, by omega, hin⟩
        simp only [asT, evC, evE, evT, evEs, evO, evL, ok_bindI, ok_okI, ok_optI, look, List.getElem?_cons_zero, List.getElem?_cons_succ, List.set_cons_zero, List.set_cons_succ, Option.some.injEq, exists_eq_left', Option.bind_some, Option.map_some, asBool, ltD, eqD, Wb.wipe, Res.bind_ok, Int.zero_add, opD, cpD, noB, two, if_true, show decide ((0 : Int) ≤ (j : Int)) = true from decide_eq_true (by omega)]
        by_cases c1 : Builtin.bitAnd (mk / 2 ^ (j : Int).toNat) 1 = 1
        · simp only [decide_eq_true c1, if_true, evE, evT, evEs, evO, evL, ok_bindI, ok_okI, ok_optI, look, List.getElem?_cons_zero, List.getElem?_cons_succ, List.set_cons_zero, List.set_cons_succ, Option.some.injEq, exists_eq_left', Option.bind_some, Option.map_some, asBool, ltD, eqD, cpD, noB]
          by_cases c2 : way < 2
          · simp only [decide_eq_true c2, if_true, evE, evT, evEs, evO, evL, ok_bindI, ok_okI, ok_optI, look, List.getElem?_cons_zero, List.getElem?_cons_succ, List.set_cons_zero, List.set_cons_succ, Option.some.injEq, exists_eq_left', Option.bind_some, Option.map_some, asBool, ltD, eqD, two]
            exact ⟨trivial, yes⟩
          · simp only [decide_eq_false c2, Bool.false_eq_true, if_false, evE, evT, evEs, evO, evL, ok_bindI, ok_okI, ok_optI, look, List.getElem?_cons_zero, List.getElem?_cons_succ, List.set_cons_zero, List.set_cons_succ, Option.some.injEq, exists_eq_left', Option.bind_some, Option.map_some, asBool, ltD, eqD, cpD, noB]
            by_cases c3 : (i : Int) = (j : Int)
            · simp only [decide_eq_true c3, Bool.not_true, Bool.false_eq_true, if_false, ok_okI]
              exact ⟨trivial, no⟩
            · simp only [decide_eq_false c3, Bool.not_false, if_true, evE, evT, evEs, evO, evL, ok_bindI, ok_okI, ok_optI, look, List.getElem?_cons_zero, List.getElem?_cons_succ, List.set_cons_zero, List.set_cons_succ, Option.some.injEq, exists_eq_left', Option.bind_some, Option.map_some, asBool, ltD, eqD, two]
              exact ⟨trivial, yes⟩
        · simp only [decide_eq_false c1, Bool.false_eq_true, if_false, evE, evT, evEs, evO, evL, ok_bindI, ok_okI, ok_optI, look, List.getElem?_cons_zero, List.getElem?_cons_succ, List.set_cons_zero, List.set_cons_succ, Option.some.injEq, exists_eq_left', Option.bind_some, Option.map_some, asBool, ltD, eqD]
          exact ⟨trivial, no⟩
      · rintro acc s ⟨rfl, ps, rfl, hl, hin⟩
        rw [rng_len, Int.sub_zero] at hl
        refine ⟨_, t1, by simp only [List.length_map]; omega, ok_nil (hQ _ ?_)⟩
        exact (h3.ext t1 t3 hin (by omega)).more (by omega) (Nat.le_refl _)
    refine ok_when ?_
    simp only [evE, evT, evEs, evO, evL, ok_bindI, ok_okI, ok_optI, look, List.getElem?_cons_zero, List.getElem?_cons_succ, List.set_cons_zero, List.set_cons_succ, Option.some.injEq, exists_eq_left', Option.bind_some, Option.map_some, asBool, ltD, eqD, cpD]
    by_cases c0 : 0 < way
    · simp only [decide_eq_true c0, if_true]
      refine ok_asg ?_
      simp only [evE, evT, evEs, evO, evL, ok_bindI, ok_okI, ok_optI, look, List.getElem?_cons_zero, List.getElem?_cons_succ, List.set_cons_zero, List.set_cons_succ, Option.some.injEq, exists_eq_left', Option.bind_some, Option.map_some, asBool, ltD, eqD, opD, shl, if_true]
      refine ok_imp (draw_ok (by omega) h2.fed pw.1 pw.2) fun d s3 ⟨mk2, e, _, _, g5, g6⟩ => ?_
      subst e
      simp only [opD, ok_okI, evE, evT, evEs, evO, evL, ok_bindI, ok_okI, ok_optI, look, List.getElem?_cons_zero, List.getElem?_cons_succ, List.set_cons_zero, List.set_cons_succ, Option.some.injEq, exists_eq_left', Option.bind_some, Option.map_some, asBool, ltD, eqD]
      exact ok_nil (fin s3 (Builtin.bitAnd mk mk2) _ (h2.next g5 g6) fun s4 h4 => ⟨_, _, rfl, h4⟩)
    · simp only [decide_eq_false c0, Bool.false_eq_true, if_false]
      exact fin s2 mk _ (h2.more (by omega) (Nat.le_refl _)) fun s4 h4 => ⟨_, _, rfl, h4⟩
  · rintro r s ⟨x, y, rfl, h⟩
    rw [rng_len, Int.sub_zero] at h
    obtain ⟨ts, t1, t2, t3⟩ := h.ties
    refine ok_ret ?_
    simp only [evE, evT, evEs, evO, evL, ok_bindI, ok_okI, ok_optI, look, List.getElem?_cons_zero, List.getElem?_cons_succ, List.set_cons_zero, List.set_cons_succ, Option.some.injEq, exists_eq_left', Option.bind_some, Option.map_some, asBool, ltD, eqD]
    refine gc_refS t1 (under_pairs _ _) h.st.len h.q0 fun q2 s2 hl hk h0 hq => ⟨q2, rfl, ⟨Fed.keepLow (Fed.more h.fed (by omega)) hfl hcl hk, ⟨hl, fun m hm e => (hk m hm).trans (h.st.old m hm e)⟩, h0, hfl, hcl, ts, hq, by omega, t3⟩⟩

theorem WS.new {S s : Store} {f c T B : Nat} {n : Int} (g : Fed s f c T) (st : Step f S s) (hfl : f < S.length) (hcl : c < S.length) {ps : List (Int × Int)} (hl : ps.length ≤ B) (hin : In n ps) : WS S f c T s.length n B (s ++ [.lst (ps.map ofPair)]) :=
  ⟨g.step (Step.push (o := .lst (ps.map ofPair))) (List.getElem?_append_left (Nat.lt_of_lt_of_le hfl st.len)), st.trans Step.push, st.len, hfl, hcl, ps, push_new, hl, hin⟩
structure Webb (n : Int) (ts : List (Int × Int)) : Prop where
  n0 : 0 ≤ n
  inn : In n ts
  up : Up ts
  nd : ts.Nodup
  few : ts.length ≤ 40
abbrev WebPost (S : Store) (f c T : Nat) (most : Int) : D → Store → Prop := fun d S' => ∃ n ts, d = webD n ts ∧ n ≤ most ∧ Webb n ts ∧ Fed S' f c T ∧ Step f S S'
abbrev WebEnd (S : Store) (f c T : Nat) (most : Int) : Out → Store → Prop := fun o s1 => match o with
  | .rt d => Ok (gc S d s1) (WebPost S f c T most)
  | .nx _ => Ok (gc S .non s1) (WebPost S f c T most)
  | _ => False
section
variable {F k f c T : Nat} {S s : Store} {most n kd : Int} {x4 x6 x7 : Option D} {q : Nat}
theorem set_web {ts : List (Int × Int)} (hin : In n ts) (hn : n ≤ 1000) (hl : ts.length ≤ 40) : sortSetD (ts.map ofPair) = some ((srtP (dedup ts)).map ofPair) := sortSetD_pairs (by omega) fun p hp => by
  have := hin p hp
  omega
theorem web_of {ts : List (Int × Int)} (n0 : 0 ≤ n) (hin : In n ts) (hl : ts.length ≤ 40) : Webb n (srtP (dedup ts)) := ⟨n0, fun p hp => hin p (mem_dedup.mp (mem_srtP.mp hp)), up_srt, (srt_perm _).nodup_iff.mpr (dedup_nodup ts), by
  rw [(srt_perm _).length_eq]
  have := dedup_len ts
  omega⟩
theorem under_web (n : Int) (l : List (Int × Int)) (k : Nat) : D.under k (webD n l) = true := by
  show (D.under k (.int n) && (D.under k (.tup (l.map ofPair)) && true)) = true
  rw [show D.under k (.tup (l.map ofPair)) = true from under_pairs l k]
  rfl
theorem web_last (n0 : 0 ≤ n) (n1 : n ≤ most) (hm : most ≤ 6) (h : WS S f c T q n 40 s) : Ok (evSs (call PP F (k + 2)) F (c_law_web.drop 4) [some (.ref f), some (.int most), some (.int n), some (.int kd), x4, some (.ref q), x6, x7, none, none, none] s) (WebEnd S f c T most) := by
  show Ok (evSs _ F [_] _ s) _
  obtain ⟨ts, t1, t2, t3⟩ := h.ties
  refine ok_ret ?_
  simp only [evE, evT, evEs, evO, evL, ok_bindI, ok_okI, ok_optI, look, List.getElem?_cons_zero, List.getElem?_cons_succ, List.set_cons_zero, List.set_cons_succ, Option.some.injEq, exists_eq_left', Option.bind_some, Option.map_some, asBool, ltD, eqD, lstAt, t1, set_web t3 (by omega) t2, conD, two, if_true]
  exact gc_any (under_web n _ _) h.st.len fun S2 hl ho => ⟨n, srtP (dedup ts), rfl, n1, web_of n0 t3 t2, Fed.keepLow h.fed h.fl h.cl ho, ⟨hl, fun m hm e => (ho m hm).trans (h.st.old m hm e)⟩⟩
theorem web_tog (hT : T ≤ 900000) (n0 : 0 ≤ n) (n1 : n ≤ most) (hm : most ≤ 6) (h : WS S f c T q n 36 s) : Ok (evSs (call PP F (k + 2)) F (c_law_web.drop 3) [some (.ref f), some (.int most), some (.int n), some (.int kd), x4, some (.ref q), x6, x7, none, none, none] s) (WebEnd S f c (T + 3) most) := by
  show Ok (evSs _ F (_ :: c_law_web.drop 4) _ s) _
  refine ok_when ?_
  simp only [evE, evT, evEs, evO, evL, ok_bindI, ok_okI, ok_optI, look, List.getElem?_cons_zero, List.getElem?_cons_succ, List.set_cons_zero, List.set_cons_succ, Option.some.injEq, exists_eq_left', Option.bind_some, Option.map_some, asBool, ltD, eqD, cpD]
  by_cases c1 : 0 < n
  · simp only [decide_eq_true c1, if_true, evE, evT, evEs, evO, evL, ok_bindI, ok_okI, ok_optI, look, List.getElem?_cons_zero, List.getElem?_cons_succ, List.set_cons_zero, List.set_cons_succ, Option.some.injEq, exists_eq_left', Option.bind_some, Option.map_some, asBool, ltD, eqD, cpD]
    refine ok_imp (draw_ok (m := 2) (by omega) h.fed (by omega) (by omega)) fun d s1 ⟨v, e, _, _, g1, g2⟩ => ?_
    subst e
    have h1 := h.next g1 g2
    simp only [evE, evT, evEs, evO, evL, ok_bindI, ok_okI, ok_optI, look, List.getElem?_cons_zero, List.getElem?_cons_succ, List.set_cons_zero, List.set_cons_succ, Option.some.injEq, exists_eq_left', Option.bind_some, Option.map_some, asBool, ltD, eqD, cpD]
    by_cases c2 : v = 0
    · simp only [c2, decide_true, if_true]
      refine ok_asg ?_
      simp only [evE, evT, evEs, evO, evL, ok_bindI, ok_okI, ok_optI, look, List.getElem?_cons_zero, List.getElem?_cons_succ, List.set_cons_zero, List.set_cons_succ, Option.some.injEq, exists_eq_left', Option.bind_some, Option.map_some, asBool, ltD, eqD]
      refine ok_imp (draw_ok (m := n) (by omega) h1.fed c1 (by omega)) fun d s2 ⟨pa, e, a0, a1, g3, g4⟩ => ?_
      subst e
      have h2 := h1.next g3 g4
      refine ok_imp (draw_ok (m := n) (by omega) h2.fed c1 (by omega)) fun d s3 ⟨pb, e, b0, b1, g5, g6⟩ => ?_
      subst e
      have h3 := h2.next g5 g6
      obtain ⟨ts, t1, t2, t3⟩ := h3.ties
      have hp : (0 ≤ (pa, pb).1 ∧ (pa, pb).1 < n) ∧ 0 ≤ (pa, pb).2 ∧ (pa, pb).2 < n := ⟨⟨a0, a1⟩, b0, b1⟩
      simp only [evE, evT, evEs, evO, evL, ok_bindI, ok_okI, ok_optI, look, List.getElem?_cons_zero, List.getElem?_cons_succ, List.set_cons_zero, List.set_cons_succ, Option.some.injEq, exists_eq_left', Option.bind_some, Option.map_some, asBool, ltD, eqD, two, if_true]
      refine ok_asg ?_
      simp only [evE, evT, evEs, evO, evL, ok_bindI, ok_okI, ok_optI, look, List.getElem?_cons_zero, List.getElem?_cons_succ, List.set_cons_zero, List.set_cons_succ, Option.some.injEq, exists_eq_left', Option.bind_some, Option.map_some, asBool, ltD, eqD, evIt, t1]
      refine ok_compG (still_of t1) (fun i acc => ∃ ps : List (Int × Int), acc = ps.map ofPair ∧ ps.length ≤ i ∧ In n ps) (by rw [List.length_map]; omega) ⟨[], rfl, Nat.le_refl _, fun p hp => by cases hp⟩ ?_ ?_
      · rintro i d acc hd ⟨ps, rfl, hl, hin⟩
        rw [List.getElem?_map] at hd
        obtain ⟨t, ht, rfl⟩ := Option.map_eq_some_iff.mp hd
        have htin := t3 t (List.mem_of_getElem? ht)
        have eq := eqD_pairs (S := s3) (b := n) (by omega) htin hp
        have eq2 : cpD s3 .ne (ofPair t) (.tup [.int pa, .int pb]) = some (.bl (!decide (t = (pa, pb)))) := by
          show (eqD s3 (ofPair t) (ofPair (pa, pb))).map noB = _
          rw [eq]; rfl
        by_cases c3 : t = (pa, pb)
        · refine ⟨none, ?_, ps, rfl, by omega, hin⟩
          rw [c3] at eq2
          simp only [asT, evC, evE, evT, look, Wb.wipe, Res.bind_ok, Res.opt_some, List.set_cons_zero, List.set_cons_succ, List.getElem?_cons_zero, List.getElem?_cons_succ, eq2, c3, decide_true, Bool.not_true, Option.bind_some, asBool, Bool.false_eq_true, if_false]
        · refine ⟨some (ofPair t), ?_, ps ++ [t], by simp, by simp; omega, hin.app fun p hp => by rw [List.mem_singleton.mp hp]; exact htin⟩
          simp only [asT, evC, evE, evT, look, Wb.wipe, Res.bind_ok, Res.opt_some, List.set_cons_zero, List.set_cons_succ, List.getElem?_cons_zero, List.getElem?_cons_succ, eq2, decide_eq_false c3, Bool.not_false, Option.bind_some, asBool, if_true]
      · rintro acc ⟨ps, rfl, hl, hin⟩
        rw [List.length_map] at hl
        have ni : cpD s3 .notin (.tup [.int pa, .int pb]) (.ref q) = some (.bl (!decide ((pa, pb) ∈ ts))) := by
          show (match s3[q]? with
            | some (O.lst xs) => (inD s3 (ofPair (pa, pb)) xs).map noB
            | some (O.dik kvs) => _
            | some (O.dit kvs) => _
            | _ => none) = _
          rw [t1]
          show (inD s3 (ofPair (pa, pb)) (ts.map ofPair)).map noB = _
          rw [inD_pairs (b := n) (by omega) hp t3]
          rfl
        simp only [evE, evT, evEs, evO, evL, ok_bindI, ok_okI, ok_optI, look, List.getElem?_cons_zero, List.getElem?_cons_succ, List.set_cons_zero, List.set_cons_succ, Option.some.injEq, exists_eq_left', Option.bind_some, Option.map_some, asBool, ltD, eqD, ni, bltD, show ∀ u : D, small [u].length = true from fun _ => rfl, heldL, Ls.kd, decide_true, Bool.true_or, Bool.true_and, if_true]
        have fin : ∀ us : List (Int × Int), us.length ≤ 1 → In n us → Ok (Wb.alloc (O.lst (ps.map ofPair ++ us.map ofPair)) s3) fun d s4 => Ok (evSs (call PP F (k + 2)) F [] [some (.ref f), some (.int most), some (.int n), some (.int kd), x4, some d, x6, some (.tup [.int pa, .int pb]), none, none, none] s4) (Cont (call PP F (k + 2)) F (c_law_web.drop 4) (WebEnd S f c (T + 3) most)) := fun us hu hiu => by
          rw [← List.map_append]
          refine ok_ok (ok_nil ?_)
          exact web_last n0 n1 hm (WS.new (h3.fed.more (by omega)) h3.st h.fl h.cl (by simp; omega) (hin.app hiu))
        by_cases c5 : (pa, pb) ∈ ts
        · simp only [decide_eq_true c5, Bool.not_true, Bool.false_eq_true, if_false]
          rw [if_pos (by simp)]
          refine ok_ok ?_
          rw [if_pos (small_of (by simp; omega))]
          exact ok_ok (fin [] (by simp) fun p hp => by cases hp)
        · simp only [decide_eq_false c5, Bool.not_false, if_true]
          rw [if_pos (by simp)]
          refine ok_ok ?_
          rw [if_pos (small_of (by simp; omega))]
          exact ok_ok (fin [(pa, pb)] (by simp) fun p hp' => by rw [List.mem_singleton.mp hp']; exact hp)
    · simp only [decide_eq_false c2, Bool.false_eq_true, if_false]
      exact web_last n0 n1 hm (h1.more (by omega) (by omega))
  · simp only [decide_eq_false c1, Bool.false_eq_true, if_false, evE, evT, evEs, evO, evL, ok_bindI, ok_okI, ok_optI, look, List.getElem?_cons_zero, List.getElem?_cons_succ, List.set_cons_zero, List.set_cons_succ, Option.some.injEq, exists_eq_left', Option.bind_some, Option.map_some, asBool, ltD, eqD]
    exact web_last n0 n1 hm (h.more (by omega) (by omega))
theorem in_map {l : List Nat} {g : Nat → Int × Int} (h : ∀ i ∈ l, (0 ≤ (g i).1 ∧ (g i).1 < n) ∧ 0 ≤ (g i).2 ∧ (g i).2 < n) : In n (l.map g) := fun p hp => by
  obtain ⟨i, hi, rfl⟩ := List.mem_map.mp hp
  exact h i hi
theorem web_kind (hT : T ≤ 800000) (hf : Fed s f c T) (hst : Step f S s) (hfl : f < S.length) (hcl : c < S.length) (n0 : 0 ≤ n) (n1 : n ≤ most) (hm : most ≤ 6) (k0 : 0 ≤ kd) : Ok (evSs (call PP F (k + 2)) F (c_law_web.drop 2) [some (.ref f), some (.int most), some (.int n), some (.int kd), none, none, none, none, none, none, none] s) (WebEnd S f c (T + 30) most) := by
  have go : ∀ (s' : Store) (q : Nat) (x4 x6 : Option D), WS S f c (T + 25) q n 36 s' → Ok (evSs (call PP F (k + 2)) F (c_law_web.drop 3) [some (.ref f), some (.int most), some (.int n), some (.int kd), x4, some (.ref q), x6, none, none, none, none] s') (WebEnd S f c (T + 30) most) := fun s' q x4 x6 h => ok_imp (web_tog (by omega) n0 n1 hm h) fun o s1 h1 => by
    cases o with
    | rt d => exact ok_imp h1 fun d2 s2 ⟨n', ts', e1, e2, e3, e4, e5⟩ => ⟨n', ts', e1, e2, e3, e4.more (by omega), e5⟩
    | nx r => exact ok_imp h1 fun d2 s2 ⟨n', ts', e1, e2, e3, e4, e5⟩ => ⟨n', ts', e1, e2, e3, e4.more (by omega), e5⟩
    | bk r => exact h1
    | ct r => exact h1
  have er : ∀ b : Int, rngL 0 b = (List.range b.toNat).map fun i : Nat => D.int (0 + (i : Int)) := fun b => by unfold rngL; rw [Int.sub_zero]
  show Ok (evSs _ F (_ :: c_law_web.drop 3) _ s) _
  refine ok_ite ?_
  simp only [evE, evT, evEs, evO, evL, ok_bindI, ok_okI, ok_optI, look, List.getElem?_cons_zero, List.getElem?_cons_succ, List.set_cons_zero, List.set_cons_succ, Option.some.injEq, exists_eq_left', Option.bind_some, Option.map_some, asBool, ltD, eqD, cpD]
  by_cases c0 : kd = 0
  · simp only [decide_eq_true c0, if_true]
    refine ok_asg ?_
    simp only [evE, evT, evEs, evO, evL, ok_bindI, ok_okI, ok_optI, look, List.getElem?_cons_zero, List.getElem?_cons_succ, List.set_cons_zero, List.set_cons_succ, Option.some.injEq, exists_eq_left', Option.bind_some, Option.map_some, asBool, ltD, eqD, evIt, rngOk_of (a := 0) (b := n) (by omega), if_true, er]
    refine ⟨((List.range n.toNat).map fun i : Nat => ((i : Int), ((i : Int) + 1) % n)).map ofPair, s, ?_, ?_⟩
    · rw [List.map_map]
      refine comp_map (by simp; omega) fun i hi => ?_
      have := List.mem_range.mp hi
      have hmod : decide (0 < n) = true := decide_eq_true (by omega)
      simp only [asT, asTs, evC, evE, evEs, look, Wb.wipe, List.length_cons, List.length_nil, Res.bind_ok, Res.opt_some, if_true, List.set_cons_zero, List.set_cons_succ, List.getElem?_cons_zero, List.getElem?_cons_succ, Int.zero_add, opD, hmod, show small (0 + 1 + 1) = true from rfl, Function.comp, ofPair]
    simp only [Wb.alloc, ok_okI]
    refine ok_nil (go _ _ _ _ (WS.new (hf.more (by omega)) hst hfl hcl (by simp; omega) (in_map fun i hi => ?_)))
    have := List.mem_range.mp hi
    exact ⟨⟨by show 0 ≤ (i : Int); omega, by show (i : Int) < n; omega⟩, Int.emod_nonneg _ (by omega), Int.emod_lt_of_pos _ (by omega)⟩
  · simp only [decide_eq_false c0, Bool.false_eq_true, if_false]
    refine ok_ite ?_
    simp only [evE, evT, evEs, evO, evL, ok_bindI, ok_okI, ok_optI, look, List.getElem?_cons_zero, List.getElem?_cons_succ, List.set_cons_zero, List.set_cons_succ, Option.some.injEq, exists_eq_left', Option.bind_some, Option.map_some, asBool, ltD, eqD, cpD]
    by_cases c1 : kd = 1
    · simp only [decide_eq_true c1, if_true]
      refine ok_asg ?_
      simp only [evE, evT, evEs, evO, evL, ok_bindI, ok_okI, ok_optI, look, List.getElem?_cons_zero, List.getElem?_cons_succ, List.set_cons_zero, List.set_cons_succ, Option.some.injEq, exists_eq_left', Option.bind_some, Option.map_some, asBool, ltD, eqD, show small ([] : List D).length = true from rfl, if_true, Wb.alloc]
      refine ok_for ?_
      simp only [evIt, evE, evT, evEs, evO, evL, ok_bindI, ok_okI, ok_optI, look, List.getElem?_cons_zero, List.getElem?_cons_succ, List.set_cons_zero, List.set_cons_succ, Option.some.injEq, exists_eq_left', Option.bind_some, Option.map_some, asBool, ltD, eqD, rngOk_of (a := 0) (b := n) (by omega), if_true]
      refine ok_loop (fun i r s2 => ∃ x, r = [some (.ref f), some (.int most), some (.int n), some (.int kd), x, some (.ref s.length), none, none, none, none, none] ∧ WS S f c T s.length n (6 * i) s2) ⟨none, rfl, WS.new (ps := []) hf hst hfl hcl (Nat.le_refl _) fun p hp => by cases hp⟩ ?_ ?_
      · rintro i d r s2 hd ⟨x, rfl, h⟩
        obtain ⟨rfl, hi⟩ := rng_at hd
        simp only [asT, Res.bind_ok, List.set_cons_zero, List.set_cons_succ, Int.zero_add]
        obtain ⟨ts, t1, t2, t3⟩ := h.ties
        refine ok_extend rfl t1 ?_
        simp only [evE, evT, evEs, evO, evL, ok_bindI, ok_okI, ok_optI, look, List.getElem?_cons_zero, List.getElem?_cons_succ, List.set_cons_zero, List.set_cons_succ, Option.some.injEq, exists_eq_left', Option.bind_some, Option.map_some, asBool, ltD, eqD, evIt, opD, rngOk_of (a := (i : Int) + 1) (b := n) (by omega), if_true]
        refine ⟨((List.range (n - ((i : Int) + 1)).toNat).map fun j : Nat => ((i : Int), (i : Int) + 1 + (j : Int))).map ofPair, s2, ?_, ?_⟩
        · rw [List.map_map]
          refine comp_map (f := fun j : Nat => D.int ((i : Int) + 1 + (j : Int))) (by simp; omega) fun j hj => ?_
          simp only [asT, asTs, evC, evE, evEs, look, Wb.wipe, List.length_cons, List.length_nil, Res.bind_ok, Res.opt_some, if_true, List.set_cons_zero, List.set_cons_succ, List.getElem?_cons_zero, List.getElem?_cons_succ, opD, show small (0 + 1 + 1) = true from rfl, Function.comp, ofPair]
        · refine ⟨_, t1, by simp only [List.length_map, List.length_range]; omega, ok_nil ⟨_, rfl, (h.ext t1 t3 (in_map fun j hj => ?_) (by simp only [List.length_map, List.length_range]; omega))⟩⟩
          have := List.mem_range.mp hj
          show (0 ≤ (i : Int) ∧ (i : Int) < n) ∧ 0 ≤ (i : Int) + 1 + (j : Int) ∧ (i : Int) + 1 + (j : Int) < n
          omega
      · rintro r s2 ⟨x, rfl, h⟩
        rw [rng_len, Int.sub_zero] at h
        exact ok_nil (ok_nil (go _ _ _ _ (h.more (by omega) (by omega))))
    · simp only [decide_eq_false c1, Bool.false_eq_true, if_false]
      refine ok_ite ?_
      simp only [evE, evT, evEs, evO, evL, ok_bindI, ok_okI, ok_optI, look, List.getElem?_cons_zero, List.getElem?_cons_succ, List.set_cons_zero, List.set_cons_succ, Option.some.injEq, exists_eq_left', Option.bind_some, Option.map_some, asBool, ltD, eqD, cpD]
      by_cases c2 : kd = 2
      · simp only [decide_eq_true c2, if_true]
        refine ok_asg ?_
        simp only [evE, evT, evEs, evO, evL, ok_bindI, ok_okI, ok_optI, look, List.getElem?_cons_zero, List.getElem?_cons_succ, List.set_cons_zero, List.set_cons_succ, Option.some.injEq, exists_eq_left', Option.bind_some, Option.map_some, asBool, ltD, eqD, evIt, opD, rngOk_of (a := 0) (b := n - 1) (by omega), if_true]
        refine ok_comp (fun i acc s2 => ∃ ps : List (Int × Int), acc = ps.map ofPair ∧ ps.length ≤ i ∧ In n ps ∧ Fed s2 f c (T + i) ∧ Step f S s2) (by rw [rng_len]; omega) ⟨[], rfl, Nat.le_refl _, (fun p hp => by cases hp), hf, hst⟩ ?_ ?_
        · rintro i d acc s2 hd ⟨ps, rfl, hl, hin, g1, g2⟩
          obtain ⟨rfl, hi⟩ := rng_at hd
          simp only [asT, evC, evE, evT, evEs, evO, evL, ok_bindI, ok_okI, ok_optI, look, List.getElem?_cons_zero, List.getElem?_cons_succ, List.set_cons_zero, List.set_cons_succ, Option.some.injEq, exists_eq_left', Option.bind_some, Option.map_some, asBool, ltD, eqD, Wb.wipe, Res.bind_ok, if_true, Int.zero_add, opD, two, Wb.alloc]
          have g3 : Fed (s2 ++ [O.lst [D.tup [D.int (i : Int), D.int ((i : Int) + 1)], D.tup [D.int ((i : Int) + 1), D.int (i : Int)]]]) f c (T + i) := g1.step (Step.push (f := f)) (List.getElem?_append_left (Nat.lt_of_lt_of_le hfl g2.len))
          have nw : (s2 ++ [O.lst [D.tup [D.int (i : Int), D.int ((i : Int) + 1)], D.tup [D.int ((i : Int) + 1), D.int (i : Int)]]])[s2.length]? = some (.lst [D.tup [D.int (i : Int), D.int ((i : Int) + 1)], D.tup [D.int ((i : Int) + 1), D.int (i : Int)]]) := push_new
          refine ok_imp (draw_ok (m := 2) (by omega) g3 (by omega) (by omega)) fun d s3 ⟨v, e, v0, v1, g4, g5⟩ => ?_
          subst e
          have nw2 := g5.get nw (by have := g2.len; omega)
          have ix : ∃ p : Int × Int, ixD s3 (.ref s2.length) (.int v) = some (ofPair p) ∧ (0 ≤ p.1 ∧ p.1 < n) ∧ 0 ≤ p.2 ∧ p.2 < n := by
            have hv : v = 0 ∨ v = 1 := by omega
            rcases hv with rfl | rfl
            · exact ⟨((i : Int), (i : Int) + 1), by simp only [ixD, nw2]; rfl, by show (0 ≤ (i : Int) ∧ (i : Int) < n) ∧ 0 ≤ (i : Int) + 1 ∧ (i : Int) + 1 < n; omega⟩
            · exact ⟨((i : Int) + 1, (i : Int)), by simp only [ixD, nw2]; rfl, by show (0 ≤ (i : Int) + 1 ∧ (i : Int) + 1 < n) ∧ 0 ≤ (i : Int) ∧ (i : Int) < n; omega⟩
          obtain ⟨p, ix, hp⟩ := ix
          simp only [evE, evT, evEs, evO, evL, ok_bindI, ok_okI, ok_optI, look, List.getElem?_cons_zero, List.getElem?_cons_succ, List.set_cons_zero, List.set_cons_succ, Option.some.injEq, exists_eq_left', Option.bind_some, Option.map_some, asBool, ltD, eqD, ix]
          exact ⟨ps ++ [p], by simp, by simp; omega, hin.app fun x hx => by rw [List.mem_singleton.mp hx]; exact hp, g4, (g2.trans Step.push).trans g5⟩
        · rintro acc s2 ⟨ps, rfl, hl, hin, g1, g2⟩
          rw [rng_len] at hl g1
          simp only [Wb.alloc, ok_okI]
          exact ok_nil (ok_nil (ok_nil (go _ _ _ _ (WS.new (g1.more (by omega)) g2 hfl hcl (by omega) hin))))
      · simp only [decide_eq_false c2, Bool.false_eq_true, if_false]
        refine ok_ite ?_
        simp only [evE, evT, evEs, evO, evL, ok_bindI, ok_okI, ok_optI, look, List.getElem?_cons_zero, List.getElem?_cons_succ, List.set_cons_zero, List.set_cons_succ, Option.some.injEq, exists_eq_left', Option.bind_some, Option.map_some, asBool, ltD, eqD, cpD]
        by_cases c3 : kd = 3
        · simp only [decide_eq_true c3, if_true]
          have hdv : (decide ((0 : Int) < 2) && decide ((2 : Int) < 1073741824)) = true := by decide
          refine ok_asg ?_
          simp only [evE, evT, evEs, evO, evL, ok_bindI, ok_okI, ok_optI, look, List.getElem?_cons_zero, List.getElem?_cons_succ, List.set_cons_zero, List.set_cons_succ, Option.some.injEq, exists_eq_left', Option.bind_some, Option.map_some, asBool, ltD, eqD, opD, hdv, if_true]
          have hb : 0 ≤ (n + 1) / 2 ∧ (n + 1) / 2 ≤ 3 ∧ (n + 1) / 2 ≤ n := by omega
          generalize (n + 1) / 2 = hh at hb
          obtain ⟨hb0, hb1, hb2⟩ := hb
          refine ok_asg ?_
          simp only [evE, evT, evEs, evO, evL, ok_bindI, ok_okI, ok_optI, look, List.getElem?_cons_zero, List.getElem?_cons_succ, List.set_cons_zero, List.set_cons_succ, Option.some.injEq, exists_eq_left', Option.bind_some, Option.map_some, asBool, ltD, eqD, evIt, rngOk_of (a := 0) (b := hh) (by omega), if_true, er]
          refine ⟨((List.range hh.toNat).map fun i : Nat => ((i : Int), ((i : Int) + 1) % hh)).map ofPair, s, ?_, ?_⟩
          · rw [List.map_map]
            refine comp_map (by simp; omega) fun i hi => ?_
            have := List.mem_range.mp hi
            have hmod : decide (0 < hh) = true := decide_eq_true (by omega)
            simp only [asT, asTs, evC, evE, evEs, look, Wb.wipe, List.length_cons, List.length_nil, Res.bind_ok, Res.opt_some, if_true, List.set_cons_zero, List.set_cons_succ, List.getElem?_cons_zero, List.getElem?_cons_succ, Int.zero_add, opD, hmod, show small (0 + 1 + 1) = true from rfl, Function.comp, ofPair]
          simp only [Wb.alloc, ok_okI]
          have in1 : In n ((List.range hh.toNat).map fun i : Nat => ((i : Int), ((i : Int) + 1) % hh)) := in_map fun i hi => by
            have := List.mem_range.mp hi
            have h1 : 0 ≤ ((i : Int) + 1) % hh := Int.emod_nonneg _ (by omega)
            have h2 : ((i : Int) + 1) % hh < hh := Int.emod_lt_of_pos _ (by omega)
            show (0 ≤ (i : Int) ∧ (i : Int) < n) ∧ 0 ≤ ((i : Int) + 1) % hh ∧ ((i : Int) + 1) % hh < n
            omega
          have in2 : In n ((List.range (n - hh).toNat).map fun i : Nat => (hh + (i : Int), hh + ((i : Int) + 1) % (n - hh))) := in_map fun i hi => by
            have := List.mem_range.mp hi
            have h1 : 0 ≤ ((i : Int) + 1) % (n - hh) := Int.emod_nonneg _ (by omega)
            have h2 : ((i : Int) + 1) % (n - hh) < n - hh := Int.emod_lt_of_pos _ (by omega)
            show (0 ≤ hh + (i : Int) ∧ hh + (i : Int) < n) ∧ 0 ≤ hh + ((i : Int) + 1) % (n - hh) ∧ hh + ((i : Int) + 1) % (n - hh) < n
            omega
          have l1 : ((List.range hh.toNat).map fun i : Nat => ((i : Int), ((i : Int) + 1) % hh)).length ≤ 6 := by rw [List.length_map, List.length_range]; omega
          have l2 : ((List.range (n - hh).toNat).map fun i : Nat => (hh + (i : Int), hh + ((i : Int) + 1) % (n - hh))).length ≤ 6 := by rw [List.length_map, List.length_range]; omega
          have w1 : WS S f c T s.length n 6 (s ++ [.lst (((List.range hh.toNat).map fun i : Nat => ((i : Int), ((i : Int) + 1) % hh)).map ofPair)]) := WS.new hf hst hfl hcl l1 in1
          have a1 : (s ++ [O.lst (((List.range hh.toNat).map fun i : Nat => ((i : Int), ((i : Int) + 1) % hh)).map ofPair)])[s.length]? = some (.lst (((List.range hh.toNat).map fun i : Nat => ((i : Int), ((i : Int) + 1) % hh)).map ofPair)) := push_new
          generalize ((List.range hh.toNat).map fun i : Nat => ((i : Int), ((i : Int) + 1) % hh)) = ps at in1 l1 w1 a1
          generalize hs1 : s ++ [O.lst (ps.map ofPair)] = s1 at w1 a1
          refine ok_asg ?_
          simp only [evE, evT, evEs, evO, evL, ok_bindI, ok_okI, ok_optI, look, List.getElem?_cons_zero, List.getElem?_cons_succ, List.set_cons_zero, List.set_cons_succ, Option.some.injEq, exists_eq_left', Option.bind_some, Option.map_some, asBool, ltD, eqD, lstAt, a1, evIt, opD, rngOk_of (a := 0) (b := n - hh) (by omega), if_true, er]
          refine ⟨((List.range (n - hh).toNat).map fun i : Nat => (hh + (i : Int), hh + ((i : Int) + 1) % (n - hh))).map ofPair, s1, ?_, ?_⟩
          · rw [List.map_map]
            refine comp_map (f := fun i : Nat => D.int (0 + (i : Int))) (by simp; omega) fun i hi => ?_
            have := List.mem_range.mp hi
            have hmod : decide (0 < n - hh) = true := decide_eq_true (by omega)
            simp only [asT, asTs, evC, evE, evEs, look, Wb.wipe, List.length_cons, List.length_nil, Res.bind_ok, Res.opt_some, if_true, List.set_cons_zero, List.set_cons_succ, List.getElem?_cons_zero, List.getElem?_cons_succ, Int.zero_add, opD, hmod, show small (0 + 1 + 1) = true from rfl, Function.comp, ofPair]
          generalize ((List.range (n - hh).toNat).map fun i : Nat => (hh + (i : Int), hh + ((i : Int) + 1) % (n - hh))) = us at in2 l2
          simp only [heldL, Ls.kd, decide_true, Bool.or_true, Bool.true_and]
          rw [if_pos (small_of (by simp only [List.length_map]; omega))]
          simp only [ok_okI, Wb.alloc, ← List.map_append]
          exact ok_nil (ok_nil (ok_nil (ok_nil (go _ _ _ _ (WS.new (Fed.more w1.fed (by omega)) w1.st hfl hcl (by simp; omega) (in1.app in2))))))
        · simp only [decide_eq_false c3, Bool.false_eq_true, if_false]
          refine ok_asg ?_
          simp only [evE, evT, evEs, evO, evL, ok_bindI, ok_okI, ok_optI, look, List.getElem?_cons_zero, List.getElem?_cons_succ, List.set_cons_zero, List.set_cons_succ, Option.some.injEq, exists_eq_left', Option.bind_some, Option.map_some, asBool, ltD, eqD]
          refine ok_imp (masked_ok (k := k) (by omega) hf (Nat.lt_of_lt_of_le hfl hst.len) (Nat.lt_of_lt_of_le hcl hst.len) ⟨n0, by omega⟩) fun d s2 ⟨q, e, h⟩ => ?_
          subst e
          exact ok_nil (ok_nil (ok_nil (ok_nil (go _ _ _ _ ⟨h.fed.more (by omega), hst.trans h.st, Nat.le_trans hst.len h.q0, hfl, hcl, h.ties⟩))))
theorem web_ok (hT : T ≤ 700000) (hf : Fed S f c T) (hfl : f < S.length) (hcl : c < S.length) (hm : 1 ≤ most ∧ most ≤ 6) : Ok (call PP F (k + 3) 7 [.ref f, .int most] S) (WebPost S f c (T + 40) most) := by
  refine ok_call rfl rfl ?_
  show Ok (evSs (call PP F (k + 2)) F c_law_web [some (.ref f), some (.int most), none, none, none, none, none, none, none, none, none] S) (WebEnd S f c (T + 40) most)
  show Ok (evSs _ F (_ :: _ :: c_law_web.drop 2) _ S) _
  refine ok_asg ?_
  simp only [evE, evT, evEs, evO, evL, ok_bindI, ok_okI, ok_optI, look, List.getElem?_cons_zero, List.getElem?_cons_succ, List.set_cons_zero, List.set_cons_succ, Option.some.injEq, exists_eq_left', Option.bind_some, Option.map_some, asBool, ltD, eqD, opD]
  refine ok_imp (draw_ok (m := most) (by omega) hf (by omega) (by omega)) fun d s1 ⟨u, e, u0, u1, g1, g2⟩ => ?_
  subst e
  simp only [evE, evT, evEs, evO, evL, ok_bindI, ok_okI, ok_optI, look, List.getElem?_cons_zero, List.getElem?_cons_succ, List.set_cons_zero, List.set_cons_succ, Option.some.injEq, exists_eq_left', Option.bind_some, Option.map_some, asBool, ltD, eqD, opD]
  refine ok_imp (draw_ok (m := most + 1) (by omega) g1 (by omega) (by omega)) fun d s2 ⟨v, e, v0, v1, g3, g4⟩ => ?_
  subst e
  simp only [evE, evT, evEs, evO, evL, ok_bindI, ok_okI, ok_optI, look, List.getElem?_cons_zero, List.getElem?_cons_succ, List.set_cons_zero, List.set_cons_succ, Option.some.injEq, exists_eq_left', Option.bind_some, Option.map_some, asBool, ltD, eqD, show ∀ a b c : D, small [a, b, c].length = true from fun _ _ _ => rfl, if_true, Wb.alloc]
  have st2 := g2.trans g4
  have g5 := g3.step (Step.push (f := f) (o := .lst [.int most, .int (1 + u), .int v])) (List.getElem?_append_left (Nat.lt_of_lt_of_le hfl st2.len))
  have nw : (s2 ++ [O.lst [.int most, .int (1 + u), .int v]])[s2.length]? = some (.lst [.int most, .int (1 + u), .int v]) := push_new
  refine ok_imp (draw_ok (m := 3) (by omega) g5 (by omega) (by omega)) fun d s3 ⟨w, e, w0, w1, g6, g7⟩ => ?_
  subst e
  have nw2 := g7.get nw (by have := st2.len; omega)
  have ix : ∃ n : Int, ixD s3 (.ref s2.length) (.int w) = some (.int n) ∧ 0 ≤ n ∧ n ≤ most := by
    have hw : w = 0 ∨ w = 1 ∨ w = 2 := by omega
    rcases hw with rfl | rfl | rfl
    · exact ⟨most, by simp only [ixD, nw2]; rfl, by omega, by omega⟩
    · exact ⟨1 + u, by simp only [ixD, nw2]; rfl, by omega, by omega⟩
    · exact ⟨v, by simp only [ixD, nw2]; rfl, by omega, by omega⟩
  obtain ⟨n, ix, n0, n1⟩ := ix
  simp only [evE, evT, evEs, evO, evL, ok_bindI, ok_okI, ok_optI, look, List.getElem?_cons_zero, List.getElem?_cons_succ, List.set_cons_zero, List.set_cons_succ, Option.some.injEq, exists_eq_left', Option.bind_some, Option.map_some, asBool, ltD, eqD, ix]
  refine ok_asg ?_
  simp only [evE, evT, evEs, evO, evL, ok_bindI, ok_okI, ok_optI, look, List.getElem?_cons_zero, List.getElem?_cons_succ, List.set_cons_zero, List.set_cons_succ, Option.some.injEq, exists_eq_left', Option.bind_some, Option.map_some, asBool, ltD, eqD]
  refine ok_imp (draw_ok (m := 7) (by omega) g6 (by omega) (by omega)) fun d s4 ⟨kd, e, k0, k1, g8, g9⟩ => ?_
  subst e
  refine ok_imp (web_kind (k := k) (by omega) g8 (((st2.trans Step.push).trans g7).trans g9) hfl hcl n0 n1 hm.2 k0) fun o s1 h1 => ?_
  cases o with
  | rt d => exact ok_imp h1 fun d2 s2 ⟨n', ts', e1, e2, e3, e4, e5⟩ => ⟨n', ts', e1, e2, e3, e4.more (by omega), e5⟩
  | nx r => exact ok_imp h1 fun d2 s2 ⟨n', ts', e1, e2, e3, e4, e5⟩ => ⟨n', ts', e1, e2, e3, e4.more (by omega), e5⟩
  | bk r => exact h1
  | ct r => exact h1
end
section
variable {F k f c T : Nat} {S s : Store} {n m a : Int} {ts us : List (Int × Int)}
theorem i0 (s : Store) (n : Int) (ts : List (Int × Int)) : ixD s (webD n ts) (.int 0) = some (.int n) := rfl
theorem i1 (s : Store) (n : Int) (ts : List (Int × Int)) : ixD s (webD n ts) (.int 1) = some (.tup (ts.map ofPair)) := rfl
theorem in_web {b : Int} (hb : b ≤ 1000000) (ht : In b ts) (s : Store) {x y : Int} (hx : 0 ≤ x ∧ x < b) (hy : 0 ≤ y ∧ y < b) : cpD s .isin (.tup [.int x, .int y]) (.tup (ts.map ofPair)) = some (.bl (decide ((x, y) ∈ ts))) := by
  show (inD s (ofPair (x, y)) (ts.map ofPair)).map D.bl = _
  rw [inD_pairs hb (p := (x, y)) ⟨hx, hy⟩ ht]
  rfl
theorem tie_ok (hn : n ≤ 1000) (ht : In n ts) {x y : Int} (hx : 0 ≤ x ∧ x < n) (hy : 0 ≤ y ∧ y < n) : Ok (call PP F (k + 1) 0 [webD n ts, .int x, .int y] S) fun d S' => d = .bl (decide ((x, y) ∈ ts)) ∧ Keep S S' := by
  refine ok_call rfl rfl ?_
  show Ok (evSs (call PP F k) F c_has_tie [some (webD n ts), some (.int x), some (.int y)] S) _
  unfold c_has_tie
  refine ok_ret ?_
  simp only [evE, evT, evEs, evO, evL, ok_bindI, ok_okI, ok_optI, look, List.getElem?_cons_zero, List.getElem?_cons_succ, List.set_cons_zero, List.set_cons_succ, Option.some.injEq, exists_eq_left', Option.bind_some, Option.map_some, asBool, ltD, eqD, i1, two, if_true, in_web (by omega) ht S hx hy]
  exact gc_keep rfl Keep.rfl' fun s2 h => ⟨rfl, h⟩
theorem pls_nat {b : Int} (hb : b ≤ 1000000) {l : List Int} (h : ∀ x ∈ l, 0 ≤ x ∧ x < b) : D.pls (l.map D.int) = true ∧ D.dps (l.map D.int) = 0 ∧ D.ndss (l.map D.int) = l.length := pls_ints hb h
theorem under_ints (l : List Int) (k : Nat) : D.unders k (l.map D.int) = true := by
  induction l with
  | nil => rfl
  | cons p l ih => show (D.under k (D.int p) && D.unders k (l.map D.int)) = true; rw [ih]; rfl
/-- a comprehension that takes some of the pairs -/
theorem comp_some {step : D → Store → Res (Option D)} {s : Store} (cnd : Int × Int → Bool) (g : Int × Int → Int) {ts : List (Int × Int)} (hl : ts.length ≤ 1000) (h : ∀ p ∈ ts, step (ofPair p) s = .ok (if cnd p then some (.int (g p)) else none) s) : compGo step none (ts.map ofPair) [] s = .ok (((ts.filter cnd).map g).map .int) s := by
  have := ok_compG (step := step) (gd := none) (s := s) (R := fun acc s' => acc = ((ts.filter cnd).map g).map D.int ∧ s' = s) rfl (fun i acc => acc = (((ts.take i).filter cnd).map g).map D.int) (ds := ts.map ofPair) (by rw [List.length_map]; omega) rfl (fun i d acc hd hI => by
    rw [List.getElem?_map] at hd
    obtain ⟨t, ht, rfl⟩ := Option.map_eq_some_iff.mp hd
    refine ⟨_, h t (List.mem_of_getElem? ht), ?_⟩
    have e : ts.take (i + 1) = ts.take i ++ [t] := by rw [List.take_succ, ht]; rfl
    subst hI
    cases hc : cnd t with
    | true => simp [e, hc]
    | false => simp [e, hc]) (fun acc hI => by rw [List.length_map, List.take_length] at hI; exact ⟨hI, rfl⟩)
  obtain ⟨x, s', e, rfl, rfl⟩ := this
  exact e
def outsL (ts : List (Int × Int)) (a : Int) : List Int := (ts.filter fun p => decide (p.1 = a)).map (·.2)
def insL (ts : List (Int × Int)) (a : Int) : List Int := (ts.filter fun p => decide (p.2 = a)).map (·.1)
def loopsL (ts : List (Int × Int)) : List Int := (ts.filter fun p => decide (p.1 = p.2)).map (·.1)
theorem outs_ok (hl : ts.length ≤ 1000) : Ok (call PP F (k + 1) 1 [webD n ts, .int a] S) fun d S' => d = .tup ((outsL ts a).map .int) ∧ Keep S S' := by
  refine ok_call rfl rfl ?_
  show Ok (evSs (call PP F k) F c_outs [some (webD n ts), some (.int a), none, none, none] S) _
  unfold c_outs
  refine ok_ret ?_
  simp only [evE, evT, evEs, evO, evL, ok_bindI, ok_okI, ok_optI, look, List.getElem?_cons_zero, List.getElem?_cons_succ, List.set_cons_zero, List.set_cons_succ, Option.some.injEq, exists_eq_left', Option.bind_some, Option.map_some, asBool, ltD, eqD, evIt, i1]
  refine ⟨(outsL ts a).map D.int, S, comp_some (fun p => decide (p.1 = a)) (·.2) hl fun p _ => ?_, ?_⟩
  · cases hc : decide (p.1 = a) <;> simp only [asT, asTs, ofPair, evC, evE, evT, evEs, look, Wb.wipe, List.length_cons, List.length_nil, Res.bind_ok, Res.opt_some, if_true, List.set_cons_zero, List.set_cons_succ, List.getElem?_cons_zero, List.getElem?_cons_succ, cpD, eqD, Option.map_some, Option.bind_some, asBool, hc, Bool.false_eq_true, if_false]
  simp only [conD, evE, evT, evEs, evO, evL, ok_bindI, ok_okI, ok_optI, look, List.getElem?_cons_zero, List.getElem?_cons_succ, List.set_cons_zero, List.set_cons_succ, Option.some.injEq, exists_eq_left', Option.bind_some, Option.map_some, asBool, ltD, eqD]
  exact gc_keep (under_ints _ _) Keep.rfl' fun s2 h => ⟨rfl, h⟩
theorem ins_ok (hl : ts.length ≤ 1000) : Ok (call PP F (k + 1) 2 [webD n ts, .int a] S) fun d S' => d = .tup ((insL ts a).map .int) ∧ Keep S S' := by
  refine ok_call rfl rfl ?_
  show Ok (evSs (call PP F k) F c_ins [some (webD n ts), some (.int a), none, none, none] S) _
  unfold c_ins
  refine ok_ret ?_
  simp only [evE, evT, evEs, evO, evL, ok_bindI, ok_okI, ok_optI, look, List.getElem?_cons_zero, List.getElem?_cons_succ, List.set_cons_zero, List.set_cons_succ, Option.some.injEq, exists_eq_left', Option.bind_some, Option.map_some, asBool, ltD, eqD, evIt, i1]
  refine ⟨(insL ts a).map D.int, S, comp_some (fun p => decide (p.2 = a)) (·.1) hl fun p _ => ?_, ?_⟩
  · cases hc : decide (p.2 = a) <;> simp only [asT, asTs, ofPair, evC, evE, evT, evEs, look, Wb.wipe, List.length_cons, List.length_nil, Res.bind_ok, Res.opt_some, if_true, List.set_cons_zero, List.set_cons_succ, List.getElem?_cons_zero, List.getElem?_cons_succ, cpD, eqD, Option.map_some, Option.bind_some, asBool, hc, Bool.false_eq_true, if_false]
  simp only [conD, evE, evT, evEs, evO, evL, ok_bindI, ok_okI, ok_optI, look, List.getElem?_cons_zero, List.getElem?_cons_succ, List.set_cons_zero, List.set_cons_succ, Option.some.injEq, exists_eq_left', Option.bind_some, Option.map_some, asBool, ltD, eqD]
  exact gc_keep (under_ints _ _) Keep.rfl' fun s2 h => ⟨rfl, h⟩
theorem loops_ok (hl : ts.length ≤ 1000) : Ok (call PP F (k + 1) 3 [webD n ts] S) fun d S' => d = .tup ((loopsL ts).map .int) ∧ Keep S S' := by
  refine ok_call rfl rfl ?_
  show Ok (evSs (call PP F k) F c_loops [some (webD n ts), none, none, none] S) _
  unfold c_loops
  refine ok_ret ?_
  simp only [evE, evT, evEs, evO, evL, ok_bindI, ok_okI, ok_optI, look, List.getElem?_cons_zero, List.getElem?_cons_succ, List.set_cons_zero, List.set_cons_succ, Option.some.injEq, exists_eq_left', Option.bind_some, Option.map_some, asBool, ltD, eqD, evIt, i1]
  refine ⟨(loopsL ts).map D.int, S, comp_some (fun p => decide (p.1 = p.2)) (·.1) hl fun p _ => ?_, ?_⟩
  · cases hc : decide (p.1 = p.2) <;> simp only [asT, asTs, ofPair, evC, evE, evT, evEs, look, Wb.wipe, List.length_cons, List.length_nil, Res.bind_ok, Res.opt_some, if_true, List.set_cons_zero, List.set_cons_succ, List.getElem?_cons_zero, List.getElem?_cons_succ, cpD, eqD, Option.map_some, Option.bind_some, asBool, hc, Bool.false_eq_true, if_false]
  simp only [conD, evE, evT, evEs, evO, evL, ok_bindI, ok_okI, ok_optI, look, List.getElem?_cons_zero, List.getElem?_cons_succ, List.set_cons_zero, List.set_cons_succ, Option.some.injEq, exists_eq_left', Option.bind_some, Option.map_some, asBool, ltD, eqD]
  exact gc_keep (under_ints _ _) Keep.rfl' fun s2 h => ⟨rfl, h⟩
def five : List (Int × Int) := [(2, 10), (10, 2), (9, 11), (11, 9), (11, 11)]
theorem five_len : five.length = 5 := rfl
theorem five_in : ∀ p ∈ five, (0 ≤ p.1 ∧ p.1 < 12) ∧ 0 ≤ p.2 ∧ p.2 < 12 := by decide
theorem wide_ok (hn : 12 ≤ n ∧ n ≤ 15) : Ok (call PP F (k + 1) 8 [.int n] S) fun d S' => ∃ ts, d = webD n ts ∧ Webb n ts ∧ Keep S S' := by
  refine ok_call rfl rfl ?_
  show Ok (evSs (call PP F k) F c_law_wide [some (.int n), none, none, none] S) _
  unfold c_law_wide
  have er : rngL 0 n = (List.range n.toNat).map fun i : Nat => D.int (0 + (i : Int)) := by unfold rngL; rw [Int.sub_zero]
  have hmod : decide (0 < n) = true := decide_eq_true (by omega)
  have m7 : ∀ u : Int, okMul u 7 = true := fun u => okMul_r (by decide)
  have o1 : ∀ (s : Store) (u : Int), opD s .mul (.int u) (.int 7) = some (.int (u * 7), s) := fun s u => by simp only [opD, m7, if_true]
  have o2 : ∀ (s : Store) (u : Int), opD s .mod (.int u) (.int n) = some (.int (u % n), s) := fun s u => by simp only [opD, hmod, if_true]
  clear hmod m7
  refine ok_asg ?_
  simp only [evE, evT, evEs, evO, evL, ok_bindI, ok_okI, ok_optI, look, List.getElem?_cons_zero, List.getElem?_cons_succ, List.set_cons_zero, List.set_cons_succ, Option.some.injEq, exists_eq_left', Option.bind_some, Option.map_some, asBool, ltD, eqD, evIt, rngOk_of (a := 0) (b := n) (by omega), if_true, er]
  have stp : ∀ (i : Int) (s : Store), evE (call PP F k) (.tup [(.var 3), (.op .mod (.op .mul (.var 3) (.lit (D.int 7))) (.var 0))]) [some (.int n), none, none, some (.int i)] s = .ok (.tup [.int i, .int (i * 7 % n)]) s := fun i s => by
    rw [evE, evEs, evE]
    simp only [look, List.getElem?_cons_zero, List.getElem?_cons_succ, Res.opt_some, Res.bind_ok]
    rw [evEs, evE, evE, evE]
    simp only [look, List.getElem?_cons_zero, List.getElem?_cons_succ, Res.opt_some, Res.bind_ok]
    rw [evE]
    simp only [Res.bind_ok, o1]
    rw [evE]
    simp only [look, List.getElem?_cons_zero, Res.opt_some, Res.bind_ok, o2]
    rw [evEs]
    simp only [Res.bind_ok, two, if_true]
  refine ⟨((List.range n.toNat).map fun i : Nat => ((i : Int), (i : Int) * 7 % n)).map ofPair, S, ?_, ?_⟩
  · rw [List.map_map]
    refine comp_map (by simp; omega) fun i hi => ?_
    show ((Res.ok [some (.int n), none, none, some (.int (0 + (i : Int)))] S).bind fun r3 s3 => (evC (call PP F k) none r3 s3).bind fun k1 s4 => if k1 then (evE (call PP F k) (.tup [(.var 3), (.op .mod (.op .mul (.var 3) (.lit (D.int 7))) (.var 0))]) r3 s4).bind fun v s5 => .ok (some v) s5 else .ok none s4) = _
    rw [Res.bind_ok, evC, Res.bind_ok, if_pos rfl, stp, Res.bind_ok, Int.zero_add]
    rfl
  have inA : In n (((List.range n.toNat).map fun i : Nat => ((i : Int), (i : Int) * 7 % n)) ++ five) := In.app (in_map fun i hi => by
    have := List.mem_range.mp hi
    exact ⟨⟨by show 0 ≤ (i : Int); omega, by show (i : Int) < n; omega⟩, Int.emod_nonneg _ (by omega), Int.emod_lt_of_pos _ (by omega)⟩) (fun p hp => by
    have := five_in p hp
    omega)
  have lA : (((List.range n.toNat).map fun i : Nat => ((i : Int), (i : Int) * 7 % n)) ++ five).length ≤ 20 := by rw [List.length_append, List.length_map, List.length_range, five_len]; omega
  generalize ((List.range n.toNat).map fun i : Nat => ((i : Int), (i : Int) * 7 % n)) = ps at inA lA
  simp only [evE, evT, evEs, evO, evL, ok_bindI, ok_okI, ok_optI, look, List.getElem?_cons_zero, List.getElem?_cons_succ, List.set_cons_zero, List.set_cons_succ, Option.some.injEq, exists_eq_left', Option.bind_some, Option.map_some, asBool, ltD, eqD, two, if_true, show ∀ a b c d e : D, small [a, b, c, d, e].length = true from fun _ _ _ _ _ => rfl, heldL, Ls.kd, decide_true, Bool.true_or, Bool.true_and]
  rw [List.length_append, five_len] at lA
  have sm : small ((ps.map ofPair).length + [D.tup [D.int 2, D.int 10], D.tup [D.int 10, D.int 2], D.tup [D.int 9, D.int 11], D.tup [D.int 11, D.int 9], D.tup [D.int 11, D.int 11]].length) = true := by
    refine small_of ?_
    rw [List.length_map]
    show ps.length + 5 ≤ 1000000
    omega
  rw [if_pos sm]
  have e5 : (ps.map ofPair ++ [D.tup [D.int 2, D.int 10], D.tup [D.int 10, D.int 2], D.tup [D.int 9, D.int 11], D.tup [D.int 11, D.int 9], D.tup [D.int 11, D.int 11]]) = (ps ++ five).map ofPair := by rw [List.map_append]; rfl
  rw [e5]
  have lB : (ps ++ five).length ≤ 20 := by rw [List.length_append, five_len]; exact lA
  generalize ps ++ five = ts at inA lB
  simp only [evE, evT, evEs, evO, evL, ok_bindI, ok_okI, ok_optI, look, List.getElem?_cons_zero, List.getElem?_cons_succ, List.set_cons_zero, List.set_cons_succ, Option.some.injEq, exists_eq_left', Option.bind_some, Option.map_some, asBool, ltD, eqD, Wb.alloc]
  refine ok_ret ?_
  simp only [evE, evT, evEs, evO, evL, ok_bindI, ok_okI, ok_optI, look, List.getElem?_cons_zero, List.getElem?_cons_succ, List.set_cons_zero, List.set_cons_succ, Option.some.injEq, exists_eq_left', Option.bind_some, Option.map_some, asBool, ltD, eqD, lstAt, push_new, set_web inA (by omega) (by omega), conD, two, if_true]
  exact gc_keep (under_web _ _ _) Keep.push fun s2 h => ⟨_, rfl, web_of (by omega) inA (by omega), h⟩
theorem outs_taken (hn : 0 ≤ n) (ht : In n ts) (u : Up ts) (nd : ts.Nodup) : outsL ts a = taken (fun b => decide ((a, b) ∈ ts)) n.toNat := by
  refine inc_eq (inc_snd (up_strict u nd)) taken_inc fun x => ?_
  rw [mem_taken]
  unfold outsL
  simp only [List.mem_map, List.mem_filter, decide_eq_true_eq]
  refine ⟨fun ⟨p, ⟨hp, e⟩, e2⟩ => ?_, fun ⟨_, h⟩ => ⟨(a, x), ⟨h, rfl⟩, rfl⟩⟩
  subst e; subst e2
  have := ht p hp
  exact ⟨by omega, hp⟩
theorem ins_taken (hn : 0 ≤ n) (ht : In n ts) (u : Up ts) (nd : ts.Nodup) : insL ts a = taken (fun b => decide ((b, a) ∈ ts)) n.toNat := by
  refine inc_eq (inc_fst (up_strict u nd)) taken_inc fun x => ?_
  rw [mem_taken]
  unfold insL
  simp only [List.mem_map, List.mem_filter, decide_eq_true_eq]
  refine ⟨fun ⟨p, ⟨hp, e⟩, e2⟩ => ?_, fun ⟨_, h⟩ => ⟨(x, a), ⟨h, rfl⟩, rfl⟩⟩
  subst e; subst e2
  have := ht p hp
  exact ⟨by omega, hp⟩
theorem loops_taken (hn : 0 ≤ n) (ht : In n ts) (u : Up ts) (nd : ts.Nodup) : loopsL ts = taken (fun b => decide ((b, b) ∈ ts)) n.toNat := by
  refine inc_eq (inc_own (up_strict u nd)) taken_inc fun x => ?_
  rw [mem_taken]
  unfold loopsL
  simp only [List.mem_map, List.mem_filter, decide_eq_true_eq]
  refine ⟨fun ⟨p, ⟨hp, e⟩, e2⟩ => ?_, fun ⟨_, h⟩ => ⟨(x, x), ⟨h, rfl⟩, rfl⟩⟩
  have := ht p hp
  have e3 : p = (x, x) := Prod.ext e2 (e.symm.trans e2)
  exact ⟨by omega, e3 ▸ hp⟩
theorem ok_par3 {cl : Nat → List D → Store → Res D} {F i j l : Nat} {r : Wb.Env} {s : Store} {rest : List Wb.S} {Q : Out → Store → Prop} {x y z : E} (h : Ok (evE cl x r s) fun d s1 => Ok (evE cl y r s1) fun e s2 => Ok (evE cl z r s2) fun g s3 => Ok (evSs cl F rest (((r.set i (some d)).set j (some e)).set l (some g)) s3) Q) : Ok (evSs cl F (.par3 i j l x y z :: rest) r s) Q := by
  refine ok_cons ?_
  rw [evS]
  exact ok_bind (ok_imp h fun d s1 h => ok_bind (ok_imp h fun e s2 h => ok_bind (ok_imp h fun g s3 h => ok_ok h)))
/-- three lists behind what stood -/
structure Rows (S s : Store) (l1 l2 l3 : List Int) : Prop where
  kp : Keep S s
  a1 : s[S.length]? = some (.lst (l1.map .int))
  a2 : s[S.length + 1]? = some (.lst (l2.map .int))
  a3 : s[S.length + 2]? = some (.lst (l3.map .int))
theorem Rows.p1 {l1 l2 l3 : List Int} {x : Int} (h : Rows S s l1 l2 l3) : Rows S (s.set S.length (.lst (l1.map .int ++ [.int x]))) (l1 ++ [x]) l2 l3 :=
  ⟨⟨by simpa using h.kp.len, fun y hy => by rw [set_other (by omega)]; exact h.kp.old y hy⟩, by rw [set_self h.a1]; simp, by rw [set_other (by omega)]; exact h.a2, by rw [set_other (by omega)]; exact h.a3⟩
theorem Rows.p2 {l1 l2 l3 : List Int} {x : Int} (h : Rows S s l1 l2 l3) : Rows S (s.set (S.length + 1) (.lst (l2.map .int ++ [.int x]))) l1 (l2 ++ [x]) l3 :=
  ⟨⟨by simpa using h.kp.len, fun y hy => by rw [set_other (by omega)]; exact h.kp.old y hy⟩, by rw [set_other (by omega)]; exact h.a1, by rw [set_self h.a2]; simp, by rw [set_other (by omega)]; exact h.a3⟩
theorem Rows.p3 {l1 l2 l3 : List Int} {x : Int} (h : Rows S s l1 l2 l3) : Rows S (s.set (S.length + 2) (.lst (l3.map .int ++ [.int x]))) l1 l2 (l3 ++ [x]) :=
  ⟨⟨by simpa using h.kp.len, fun y hy => by rw [set_other (by omega)]; exact h.kp.old y hy⟩, by rw [set_other (by omega)]; exact h.a1, by rw [set_other (by omega)]; exact h.a2, by rw [set_self h.a3]; simp⟩
theorem Rows.keep {l1 l2 l3 : List Int} {s2 : Store} (h : Rows S s l1 l2 l3) (k : Keep s s2) : Rows S s2 l1 l2 l3 := ⟨h.kp.trans k, k.get h.a1, k.get h.a2, k.get h.a3⟩
def rowIn : List Wb.S := match c_law_row_right.getD 1 .pass with
  | .for_ _ _ b => b
  | _ => []
theorem cap {l : List Int} {i : Nat} {x : Bool} {v : Int} : (l ++ if x then [v] else []) = if x then l ++ [v] else l := by cases x <;> simp
theorem row_in {i : Nat} (hn : n ≤ 20) (ht : In n ts) (ha : 0 ≤ a ∧ a < n) (hi : (i : Int) < n) {l1 l2 l3 : List Int} (h1 : l1.length ≤ 20) (h2 : l2.length ≤ 20) (h3 : l3.length ≤ 20) (h : Rows S s l1 l2 l3) {Q : Out → Store → Prop}
    (hQ : ∀ s2, Rows S s2 (l1 ++ if decide ((a, (i : Int)) ∈ ts) then [(i : Int)] else []) (l2 ++ if decide (((i : Int), a) ∈ ts) then [(i : Int)] else []) (l3 ++ if decide (((i : Int), (i : Int)) ∈ ts) then [(i : Int)] else []) → Q (.nx [some (webD n ts), some (.int a), some (.ref S.length), some (.ref (S.length + 1)), some (.ref (S.length + 2)), some (.int (i : Int)), none]) s2) :
    Ok (evSs (call PP F (k + 1)) F rowIn [some (webD n ts), some (.int a), some (.ref S.length), some (.ref (S.length + 1)), some (.ref (S.length + 2)), some (.int (i : Int)), none] s) Q := by
  have hb : (0 : Int) ≤ (i : Int) ∧ (i : Int) < n := ⟨by omega, hi⟩
  have w : ∀ (s : Store) (x y : Int), 0 ≤ x ∧ x < n → 0 ≤ y ∧ y < n → cpD s .isin (.tup [.int x, .int y]) (.tup (ts.map ofPair)) = some (.bl (decide ((x, y) ∈ ts))) := fun s x y hx hy => in_web (by omega) ht s hx hy
  have rb : ∀ (S : Store) (b : Bool), reprD S (.bl b) = some (.str (D.bl b).py.shown) := fun S b => reprD_pl (d := .bl b) rfl (by show 0 ≤ 50; omega) (by show 1 ≤ 4000; omega)
  have third : ∀ s l1 l2, Rows S s l1 l2 l3 → (∀ s2, Rows S s2 l1 l2 (l3 ++ if decide (((i : Int), (i : Int)) ∈ ts) then [(i : Int)] else []) → Q (.nx [some (webD n ts), some (.int a), some (.ref S.length), some (.ref (S.length + 1)), some (.ref (S.length + 2)), some (.int (i : Int)), none]) s2) → Ok (evSs (call PP F (k + 1)) F (rowIn.drop 3) [some (webD n ts), some (.int a), some (.ref S.length), some (.ref (S.length + 1)), some (.ref (S.length + 2)), some (.int (i : Int)), none] s) Q := by
    intro s l1 l2 h hQ
    show Ok (evSs _ F [_] _ s) _
    refine ok_when ?_
    simp only [evE, evT, evEs, evO, evL, ok_bindI, ok_okI, ok_optI, look, List.getElem?_cons_zero, List.getElem?_cons_succ, List.set_cons_zero, List.set_cons_succ, Option.some.injEq, exists_eq_left', Option.bind_some, Option.map_some, asBool, ltD, eqD, two, if_true, i1, w s _ _ hb hb]
    by_cases c : ((i : Int), (i : Int)) ∈ ts
    · simp only [decide_eq_true c, if_true] at hQ ⊢
      refine ok_append rfl h.a3 ?_
      simp only [evE, evT, evEs, evO, evL, ok_bindI, ok_okI, ok_optI, look, List.getElem?_cons_zero, List.getElem?_cons_succ, List.set_cons_zero, List.set_cons_succ, Option.some.injEq, exists_eq_left', Option.bind_some, Option.map_some, asBool, ltD, eqD]
      exact ⟨_, h.a3, by rw [List.length_map]; omega, ok_nil (ok_nil (hQ _ h.p3))⟩
    · simp only [decide_eq_false c, Bool.false_eq_true, if_false, List.append_nil] at hQ ⊢
      exact ok_nil (hQ _ h)
  have second : ∀ s l1, Rows S s l1 l2 l3 → (∀ s2, Rows S s2 l1 (l2 ++ if decide (((i : Int), a) ∈ ts) then [(i : Int)] else []) (l3 ++ if decide (((i : Int), (i : Int)) ∈ ts) then [(i : Int)] else []) → Q (.nx [some (webD n ts), some (.int a), some (.ref S.length), some (.ref (S.length + 1)), some (.ref (S.length + 2)), some (.int (i : Int)), none]) s2) → Ok (evSs (call PP F (k + 1)) F (rowIn.drop 2) [some (webD n ts), some (.int a), some (.ref S.length), some (.ref (S.length + 1)), some (.ref (S.length + 2)), some (.int (i : Int)), none] s) Q := by
    intro s l1 h hQ
    show Ok (evSs _ F (_ :: rowIn.drop 3) _ s) _
    refine ok_when ?_
    simp only [evE, evT, evEs, evO, evL, ok_bindI, ok_okI, ok_optI, look, List.getElem?_cons_zero, List.getElem?_cons_succ, List.set_cons_zero, List.set_cons_succ, Option.some.injEq, exists_eq_left', Option.bind_some, Option.map_some, asBool, ltD, eqD, two, if_true, i1, w s _ _ hb ha]
    by_cases c : ((i : Int), a) ∈ ts
    · simp only [decide_eq_true c, if_true] at hQ ⊢
      refine ok_append rfl h.a2 ?_
      simp only [evE, evT, evEs, evO, evL, ok_bindI, ok_okI, ok_optI, look, List.getElem?_cons_zero, List.getElem?_cons_succ, List.set_cons_zero, List.set_cons_succ, Option.some.injEq, exists_eq_left', Option.bind_some, Option.map_some, asBool, ltD, eqD]
      exact ⟨_, h.a2, by rw [List.length_map]; omega, ok_nil (third _ _ _ h.p2 hQ)⟩
    · simp only [decide_eq_false c, Bool.false_eq_true, if_false, List.append_nil] at hQ ⊢
      exact third _ _ _ h hQ
  have first : ∀ s, Rows S s l1 l2 l3 → Ok (evSs (call PP F (k + 1)) F (rowIn.drop 1) [some (webD n ts), some (.int a), some (.ref S.length), some (.ref (S.length + 1)), some (.ref (S.length + 2)), some (.int (i : Int)), none] s) Q := by
    intro s h
    show Ok (evSs _ F (_ :: rowIn.drop 2) _ s) _
    refine ok_when ?_
    simp only [evE, evT, evEs, evO, evL, ok_bindI, ok_okI, ok_optI, look, List.getElem?_cons_zero, List.getElem?_cons_succ, List.set_cons_zero, List.set_cons_succ, Option.some.injEq, exists_eq_left', Option.bind_some, Option.map_some, asBool, ltD, eqD, two, if_true, i1, w s _ _ ha hb]
    by_cases c : (a, (i : Int)) ∈ ts
    · simp only [decide_eq_true c, if_true] at hQ ⊢
      refine ok_append rfl h.a1 ?_
      simp only [evE, evT, evEs, evO, evL, ok_bindI, ok_okI, ok_optI, look, List.getElem?_cons_zero, List.getElem?_cons_succ, List.set_cons_zero, List.set_cons_succ, Option.some.injEq, exists_eq_left', Option.bind_some, Option.map_some, asBool, ltD, eqD]
      exact ⟨_, h.a1, by rw [List.length_map]; omega, ok_nil (second _ _ h.p1 hQ)⟩
    · simp only [decide_eq_false c, Bool.false_eq_true, if_false, List.append_nil] at hQ ⊢
      exact second _ _ h hQ
  show Ok (evSs _ F (_ :: rowIn.drop 1) _ s) _
  refine ok_when ?_
  simp only [evE, evT, evEs, evO, evL, ok_bindI, ok_okI, ok_optI, look, List.getElem?_cons_zero, List.getElem?_cons_succ, List.set_cons_zero, List.set_cons_succ, Option.some.injEq, exists_eq_left', Option.bind_some, Option.map_some, asBool, ltD, eqD]
  refine ok_imp (tie_ok (k := k) (by omega) ht ha hb) fun d s2 ⟨e, k2⟩ => ?_
  subst e
  simp only [evE, evT, evEs, evO, evL, ok_bindI, ok_okI, ok_optI, look, List.getElem?_cons_zero, List.getElem?_cons_succ, List.set_cons_zero, List.set_cons_succ, Option.some.injEq, exists_eq_left', Option.bind_some, Option.map_some, asBool, ltD, eqD, bltD, rb, two, if_true, i1, w s2 _ _ ha hb]
  simp only [evE, evT, evEs, evO, evL, ok_bindI, ok_okI, ok_optI, look, List.getElem?_cons_zero, List.getElem?_cons_succ, List.set_cons_zero, List.set_cons_succ, Option.some.injEq, exists_eq_left', Option.bind_some, Option.map_some, asBool, ltD, eqD, cpD, noB, decide_true, Bool.not_true, Bool.false_eq_true, if_false]
  exact first _ (h.keep k2)
theorem taken_len {c : Int → Bool} {i : Nat} : (taken c i).length ≤ i := by
  unfold taken
  refine Nat.le_trans (List.length_filter_le _ _) ?_
  simp
theorem row_right_ok (w : Webb n ts) (hn : n ≤ 20) (ha : 0 ≤ a ∧ a < n) : Ok (call PP F (k + 2) 9 [webD n ts, .int a] S) fun d S' => d = .bl true ∧ Keep S S' := by
  refine ok_call rfl rfl ?_
  show Ok (evSs (call PP F (k + 1)) F c_law_row_right [some (webD n ts), some (.int a), none, none, none, none, none] S) _
  have n0 := w.n0
  unfold c_law_row_right
  refine ok_par3 ?_
  simp only [evE, evT, evEs, evO, evL, ok_bindI, ok_okI, ok_optI, look, List.getElem?_cons_zero, List.getElem?_cons_succ, List.set_cons_zero, List.set_cons_succ, Option.some.injEq, exists_eq_left', Option.bind_some, Option.map_some, asBool, ltD, eqD, show small ([] : List D).length = true from rfl, if_true, Wb.alloc]
  simp only [List.length_append, List.length_cons, List.length_nil]
  have r0 : Rows S (S ++ [.lst []] ++ [.lst []] ++ [.lst []]) [] [] [] := ⟨(Keep.push.trans Keep.push).trans Keep.push, by simp, by simp, by simp⟩
  refine ok_for ?_
  simp only [evIt, evE, evT, evEs, evO, evL, ok_bindI, ok_okI, ok_optI, look, List.getElem?_cons_zero, List.getElem?_cons_succ, List.set_cons_zero, List.set_cons_succ, Option.some.injEq, exists_eq_left', Option.bind_some, Option.map_some, asBool, ltD, eqD, i0, rngOk_of (a := 0) (b := n) (by omega), if_true]
  refine ok_loop (fun i r s => ∃ y, r = [some (webD n ts), some (.int a), some (.ref S.length), some (.ref (S.length + 1)), some (.ref (S.length + 2)), y, none] ∧ Rows S s (taken (fun b => decide ((a, b) ∈ ts)) i) (taken (fun b => decide ((b, a) ∈ ts)) i) (taken (fun b => decide ((b, b) ∈ ts)) i)) ⟨none, rfl, r0⟩ ?_ ?_
  · rintro i d r s hd ⟨y, rfl, h⟩
    obtain ⟨rfl, hi⟩ := rng_at hd
    simp only [asT, Res.bind_ok, List.set_cons_zero, List.set_cons_succ, Int.zero_add]
    have l : ∀ c : Int → Bool, (taken c i).length ≤ 20 := fun c => Nat.le_trans taken_len (by omega)
    refine row_in (k := k) hn w.inn ha (by omega) (l _) (l _) (l _) h fun s2 h2 => ⟨_, rfl, ?_⟩
    rw [taken_succ, taken_succ, taken_succ]
    exact h2
  · rintro r s ⟨y, rfl, h⟩
    rw [rng_len, Int.sub_zero] at h
    rw [← outs_taken n0 w.inn w.up w.nd, ← ins_taken n0 w.inn w.up w.nd, ← loops_taken n0 w.inn w.up w.nd] at h
    have few := w.few
    refine ok_asg ?_
    simp only [evE, evT, evEs, evO, evL, ok_bindI, ok_okI, ok_optI, look, List.getElem?_cons_zero, List.getElem?_cons_succ, List.set_cons_zero, List.set_cons_succ, Option.some.injEq, exists_eq_left', Option.bind_some, Option.map_some, asBool, ltD, eqD]
    refine ok_imp (outs_ok (k := k) (by omega)) fun d s1 ⟨e, k1⟩ => ?_
    subst e
    refine ok_imp (ins_ok (k := k) (by omega)) fun d s2 ⟨e, k2⟩ => ?_
    subst e
    refine ok_imp (loops_ok (k := k) (by omega)) fun d s3 ⟨e, k3⟩ => ?_
    subst e
    simp only [show ∀ a b c : D, small [a, b, c].length = true from fun _ _ _ => rfl, if_true, Wb.alloc, ok_okI]
    have h4 := ((h.keep k1).keep k2).keep k3
    have mo : ∀ x ∈ outsL ts a, 0 ≤ x ∧ x < n := fun x hx => by
      rw [outs_taken n0 w.inn w.up w.nd] at hx
      have := (mem_taken.mp hx).1
      omega
    have mi : ∀ x ∈ insL ts a, 0 ≤ x ∧ x < n := fun x hx => by
      rw [ins_taken n0 w.inn w.up w.nd] at hx
      have := (mem_taken.mp hx).1
      omega
    have ml : ∀ x ∈ loopsL ts, 0 ≤ x ∧ x < n := fun x hx => by
      rw [loops_taken n0 w.inn w.up w.nd] at hx
      have := (mem_taken.mp hx).1
      omega
    have lo : (outsL ts a).length ≤ 20 := by rw [outs_taken n0 w.inn w.up w.nd]; exact Nat.le_trans taken_len (by omega)
    have li : (insL ts a).length ≤ 20 := by rw [ins_taken n0 w.inn w.up w.nd]; exact Nat.le_trans taken_len (by omega)
    have ll : (loopsL ts).length ≤ 20 := by rw [loops_taken n0 w.inn w.up w.nd]; exact Nat.le_trans taken_len (by omega)
    obtain ⟨p1, q1, r1⟩ := pls_nat (b := n) (by omega) mo
    obtain ⟨p2, q2, r2⟩ := pls_nat (b := n) (by omega) mi
    obtain ⟨p3, q3, r3⟩ := pls_nat (b := n) (by omega) ml
    generalize outsL ts a = O1 at *
    generalize insL ts a = O2 at *
    generalize loopsL ts = O3 at *
    obtain ⟨Z, hZ⟩ : ∃ Z, ∀ (S : Store) (q : Nat), S[q]? = some (.lst [.tup (O1.map .int), .tup (O2.map .int), .tup (O3.map .int)]) → reprD S (.ref q) = some (.str Z) := ⟨_, fun S q hq => reprD_lst hq (by
      show (D.pls _ && (D.pls _ && (D.pls _ && true))) = true
      rw [p1, p2, p3]; rfl) (by
      show max (D.dps _ + 1) (max (D.dps _ + 1) (max (D.dps _ + 1) 0)) ≤ 50
      omega) (by
      show (D.ndss _ + 1) + ((D.ndss _ + 1) + ((D.ndss _ + 1) + 0)) ≤ 4000
      omega)⟩
    have h5 := h4.keep (Keep.push (o := .lst [.tup (O1.map .int), .tup (O2.map .int), .tup (O3.map .int)]))
    have hq : (s3 ++ [O.lst [.tup (O1.map .int), .tup (O2.map .int), .tup (O3.map .int)]])[s3.length]? = some (.lst [.tup (O1.map .int), .tup (O2.map .int), .tup (O3.map .int)]) := push_new
    generalize s3 ++ [O.lst [.tup (O1.map .int), .tup (O2.map .int), .tup (O3.map .int)]] = s4 at h5 hq
    generalize s3.length = q0 at hq
    refine ok_ret ?_
    simp only [evE, evT, evEs, evO, evL, ok_bindI, ok_okI, ok_optI, look, List.getElem?_cons_zero, List.getElem?_cons_succ, List.set_cons_zero, List.set_cons_succ, Option.some.injEq, exists_eq_left', Option.bind_some, Option.map_some, asBool, ltD, eqD, bltD, hZ _ _ hq, seqAt, h5.a1, h5.a2, h5.a3, conD, show ∀ a b c : D, small [a, b, c].length = true from fun _ _ _ => rfl, if_true, Wb.alloc, hZ _ _ push_new, cpD, decide_true]
    exact gc_keep rfl (h5.kp.trans Keep.push) fun s2 h => ⟨rfl, h⟩
end
section
variable {F k : Nat} {S s : Store} {n m a : Int} {ts us : List (Int × Int)}
theorem pls_trues : ∀ i : Nat, D.pls (List.replicate i (.bl true)) = true ∧ D.dps (List.replicate i (.bl true)) = 0 ∧ (D.pys (List.replicate i (.bl true))).any (fun z => PyData.eqv z (.bool false)) = false
  | 0 => ⟨rfl, rfl, rfl⟩
  | i + 1 => by
    obtain ⟨h1, h2, h3⟩ := pls_trues i
    rw [List.replicate_succ]
    refine ⟨?_, ?_, ?_⟩
    · show (true && D.pls _) = true
      rw [h1]; rfl
    · show max 0 (D.dps _) = 0
      rw [h2]; rfl
    · show (false || (D.pys _).any _) = false
      rw [h3]; rfl
theorem in_trues {i q : Nat} (hq : S[q]? = some (.lst (List.replicate i (.bl true)))) : cpD S .isin (.bl false) (.ref q) = some (.bl false) := by
  obtain ⟨h1, h2, h3⟩ := pls_trues i
  simp only [cpD, hq, inD]
  rw [pyOk_pl (d := .bl false) rfl (by show 0 ≤ 50; omega), pyOks_pl h1 (by omega)]
  exact congrArg (fun b => some (D.bl b)) h3
def lawIn : List Wb.S := match c_law.getD 1 .pass with
  | .for_ _ _ b => b
  | _ => []
theorem pl_web {b : Int} (hb : b ≤ 1000) (hn : 0 ≤ n ∧ n < 1000) (ht : In b ts) : (webD n ts).pl = true ∧ (webD n ts).dp ≤ 3 ∧ (webD n ts).nds = 3 + 3 * ts.length := by
  obtain ⟨h1, h2, h3⟩ := pls_pairs (b := b) (by omega) ht
  refine ⟨?_, ?_, ?_⟩
  · show (D.pl (.int n) && (D.pls (ts.map ofPair) && true)) = true
    rw [h1]
    simp [D.pl]
    omega
  · show max 0 (max (D.dps (ts.map ofPair) + 1) 0) + 1 ≤ 3
    omega
  · show 1 + ((D.ndss (ts.map ofPair) + 1) + 0) + 1 = _
    omega
def envL (scr : D) (x2 x3 : Option D) : Wb.Env := [some scr, some (.ref 1), x2, x3, none, none, none, none]
theorem law_in {scr : D} {x3 : Option D} (w : Webb n ts) (hn : n ≤ 20) {Q : Out → Store → Prop} (hQ : ∀ x3 s, Q (.nx (envL scr (some (webD n ts)) x3)) s) : Ok (evSs (call PP F (k + 3)) F lawIn (envL scr (some (webD n ts)) x3) S) Q := by
  have n0 := w.n0
  have few := w.few
  obtain ⟨p1, p2, p3⟩ := pl_web (n := n) (b := n) (by omega) (by omega) w.inn
  obtain ⟨X, hX⟩ : ∃ X, ∀ S, reprD S (webD n ts) = some (.str X) := ⟨_, fun S => reprD_pl p1 (by omega) (by omega)⟩
  show Ok (evSs _ F [_, _, _] _ S) _
  refine ok_asg ?_
  simp only [envL, evE, evT, evEs, evO, evL, ok_bindI, ok_okI, ok_optI, look, List.getElem?_cons_zero, List.getElem?_cons_succ, List.set_cons_zero, List.set_cons_succ, Option.some.injEq, exists_eq_left', Option.bind_some, Option.map_some, asBool, ltD, eqD, bltD, hX]
  refine ok_when ?_
  simp only [evE, evT, evEs, evO, evL, ok_bindI, ok_okI, ok_optI, look, List.getElem?_cons_zero, List.getElem?_cons_succ, List.set_cons_zero, List.set_cons_succ, Option.some.injEq, exists_eq_left', Option.bind_some, Option.map_some, asBool, ltD, eqD, evIt, i0, rngOk_of (a := 0) (b := n) (by omega), if_true]
  refine ok_comp (fun i acc s => acc = List.replicate i (.bl true)) (by rw [rng_len]; omega) rfl ?_ ?_
  · rintro i d acc s hd rfl
    obtain ⟨rfl, hi⟩ := rng_at hd
    simp only [asT, evC, evE, evT, evEs, evO, evL, ok_bindI, ok_okI, ok_optI, look, List.getElem?_cons_zero, List.getElem?_cons_succ, List.set_cons_zero, List.set_cons_succ, Option.some.injEq, exists_eq_left', Option.bind_some, Option.map_some, asBool, ltD, eqD, Wb.wipe, Res.bind_ok, if_true]
    refine ok_imp (row_right_ok (k := k + 1) w hn (a := 0 + (i : Int)) (by omega)) fun d s1 ⟨e, _⟩ => ?_
    subst e
    show _ = _
    rw [List.replicate_succ']
  · rintro acc s rfl
    rw [rng_len]
    simp only [evE, evT, evEs, evO, evL, ok_bindI, ok_okI, ok_optI, look, List.getElem?_cons_zero, List.getElem?_cons_succ, List.set_cons_zero, List.set_cons_succ, Option.some.injEq, exists_eq_left', Option.bind_some, Option.map_some, asBool, ltD, eqD, Wb.alloc, in_trues push_new, Bool.false_eq_true, if_false]
    simp only [evE, evT, evEs, evO, evL, ok_bindI, ok_okI, ok_optI, look, List.getElem?_cons_zero, List.getElem?_cons_succ, List.set_cons_zero, List.set_cons_succ, Option.some.injEq, exists_eq_left', Option.bind_some, Option.map_some, asBool, ltD, eqD, bltD, hX]
    simp only [evE, evT, evEs, evO, evL, ok_bindI, ok_okI, ok_optI, look, List.getElem?_cons_zero, List.getElem?_cons_succ, List.set_cons_zero, List.set_cons_succ, Option.some.injEq, exists_eq_left', Option.bind_some, Option.map_some, asBool, ltD, eqD, cpD, noB, decide_true, Bool.not_true, Bool.false_eq_true, if_false]
    refine ok_when ?_
    simp only [evE, evT, evEs, evO, evL, ok_bindI, ok_okI, ok_optI, look, List.getElem?_cons_zero, List.getElem?_cons_succ, List.set_cons_zero, List.set_cons_succ, Option.some.injEq, exists_eq_left', Option.bind_some, Option.map_some, asBool, ltD, eqD]
    refine ok_imp (loops_ok (k := k + 2) (by omega)) fun d s1 ⟨e, _⟩ => ?_
    subst e
    have ml : ∀ x ∈ loopsL ts, 0 ≤ x ∧ x < n := fun x hx => by
      rw [loops_taken n0 w.inn w.up w.nd] at hx
      have := (mem_taken.mp hx).1
      omega
    have ll : (loopsL ts).length ≤ 20 := by rw [loops_taken n0 w.inn w.up w.nd]; exact Nat.le_trans taken_len (by omega)
    obtain ⟨u1, u2, u3⟩ := pls_nat (b := n) (by omega) ml
    obtain ⟨Y, hY⟩ : ∃ Y, ∀ S, reprD S (.tup ((loopsL ts).map .int)) = some (.str Y) := ⟨_, fun S => reprD_pl (d := .tup ((loopsL ts).map .int)) u1 (by show D.dps _ + 1 ≤ 50; omega) (by show D.ndss _ + 1 ≤ 4000; omega)⟩
    simp only [evE, evT, evEs, evO, evL, ok_bindI, ok_okI, ok_optI, look, List.getElem?_cons_zero, List.getElem?_cons_succ, List.set_cons_zero, List.set_cons_succ, Option.some.injEq, exists_eq_left', Option.bind_some, Option.map_some, asBool, ltD, eqD, bltD, hY, evIt, i1]
    refine ⟨(loopsL ts).map D.int, s1, comp_some (fun p => decide (p.1 = p.2)) (·.1) (by omega) fun p _ => ?_, ?_⟩
    · cases hc : decide (p.1 = p.2) <;> simp only [asT, asTs, ofPair, evC, evE, evT, evEs, look, Wb.wipe, List.length_cons, List.length_nil, Res.bind_ok, Res.opt_some, if_true, List.set_cons_zero, List.set_cons_succ, List.getElem?_cons_zero, List.getElem?_cons_succ, cpD, eqD, Option.map_some, Option.bind_some, asBool, hc, Bool.false_eq_true, if_false]
    simp only [conD, evE, evT, evEs, evO, evL, ok_bindI, ok_okI, ok_optI, look, List.getElem?_cons_zero, List.getElem?_cons_succ, List.set_cons_zero, List.set_cons_succ, Option.some.injEq, exists_eq_left', Option.bind_some, Option.map_some, asBool, ltD, eqD, hY, cpD, noB, decide_true, Bool.not_true, Bool.false_eq_true, if_false]
    exact ok_nil (hQ _ _)
theorem law_ok (ns : List Int) : Ok (call PP F (k + 4) 10 [.fix (ns.map .int)] []) fun d _ => d = .bl true := by
  refine ok_call rfl rfl ?_
  show Ok (evSs (call PP F (k + 3)) F [_, _, _] [some (.fix (ns.map .int)), none, none, none, none, none, none, none] []) _
  refine ok_asg ?_
  simp only [evE, evT, evEs, evO, evL, ok_bindI, ok_okI, ok_optI, look, List.getElem?_cons_zero, List.getElem?_cons_succ, List.set_cons_zero, List.set_cons_succ, Option.some.injEq, exists_eq_left', Option.bind_some, Option.map_some, asBool, ltD, eqD]
  refine ok_imp (feed_ok (k := k + 2) ns) fun d s1 ⟨e, g, l⟩ => ?_
  subst e
  refine ok_for ?_
  simp only [evIt, evE, evT, evEs, evO, evL, ok_bindI, ok_okI, ok_optI, look, List.getElem?_cons_zero, List.getElem?_cons_succ, List.set_cons_zero, List.set_cons_succ, Option.some.injEq, exists_eq_left', Option.bind_some, Option.map_some, asBool, ltD, eqD, rngOk_of (a := 0) (b := 6) (by omega), if_true]
  refine ok_comp (fun i acc s => (∀ d ∈ acc, ∃ n ts, d = webD n ts ∧ n ≤ 20 ∧ Webb n ts) ∧ acc.length = i ∧ Fed s 1 0 (40 * i) ∧ Step 1 s1 s) (by rw [rng_len]; decide) ⟨(fun d h => nomatch h), rfl, g, Step.rfl'⟩ ?_ ?_
  · rintro i d acc s hd ⟨h1, h2, h3, h4⟩
    obtain ⟨rfl, hi⟩ := rng_at hd
    simp only [asT, evC, evE, evT, evEs, evO, evL, ok_bindI, ok_okI, ok_optI, look, List.getElem?_cons_zero, List.getElem?_cons_succ, List.set_cons_zero, List.set_cons_succ, Option.some.injEq, exists_eq_left', Option.bind_some, Option.map_some, asBool, ltD, eqD, Wb.wipe, Res.bind_ok, if_true]
    have := h4.len
    refine ok_imp (web_ok (k := k) (most := 6) (by omega) h3 (by omega) (by omega) (by omega)) fun d s2 ⟨n, ts, e, hn, w, g1, g2⟩ => ?_
    subst e
    refine ⟨fun d hd => ?_, by simp [h2], g1.more (by omega), h4.trans g2⟩
    rcases List.mem_append.mp hd with z | z
    · exact h1 d z
    · rw [List.mem_singleton.mp z]; exact ⟨n, ts, rfl, by omega, w⟩
  · rintro acc s ⟨h1, h2, h3, h4⟩
    rw [rng_len] at h2 h3
    simp only [evE, evT, evEs, evO, evL, ok_bindI, ok_okI, ok_optI, look, List.getElem?_cons_zero, List.getElem?_cons_succ, List.set_cons_zero, List.set_cons_succ, Option.some.injEq, exists_eq_left', Option.bind_some, Option.map_some, asBool, ltD, eqD, opD]
    refine ok_imp (draw_ok (k := k + 2) (m := 4) (by decide) h3 (by decide) (by decide)) fun d s2 ⟨v, e, v0, v1, g1, g2⟩ => ?_
    subst e
    simp only [evE, evT, evEs, evO, evL, ok_bindI, ok_okI, ok_optI, look, List.getElem?_cons_zero, List.getElem?_cons_succ, List.set_cons_zero, List.set_cons_succ, Option.some.injEq, exists_eq_left', Option.bind_some, Option.map_some, asBool, ltD, eqD, opD]
    refine ok_imp (wide_ok (k := k + 2) (n := 12 + v) (by omega)) fun d s3 ⟨ts, e, w, _⟩ => ?_
    subst e
    have sm : small (acc.length + [webD (12 + v) ts, D.tup [.int 0, .tup []], D.tup [.int 1, .tup [.tup [.int 0, .int 0]]]].length) = true := by
      rw [h2]; rfl
    simp only [evE, evT, evEs, evO, evL, ok_bindI, ok_okI, ok_optI, look, List.getElem?_cons_zero, List.getElem?_cons_succ, List.set_cons_zero, List.set_cons_succ, Option.some.injEq, exists_eq_left', Option.bind_some, Option.map_some, asBool, ltD, eqD, two, show small ([] : List D).length = true from rfl, show ∀ a : D, small [a].length = true from fun _ => rfl, show ∀ a b c : D, small [a, b, c].length = true from fun _ _ _ => rfl, if_true, heldL, Ls.kd, decide_true, Bool.true_or, Bool.true_and, sm]
    have all : ∀ d ∈ acc ++ [webD (12 + v) ts, D.tup [.int 0, .tup []], D.tup [.int 1, .tup [.tup [.int 0, .int 0]]]], ∃ n ts, d = webD n ts ∧ n ≤ 20 ∧ Webb n ts := by
      intro d hd
      rcases List.mem_append.mp hd with z | z
      · exact h1 d z
      · simp only [List.mem_cons, List.not_mem_nil, or_false] at z
        rcases z with rfl | rfl | rfl
        · exact ⟨_, _, rfl, by omega, w⟩
        · exact ⟨0, [], rfl, by omega, by omega, (fun p h => nomatch h), List.Pairwise.nil, List.nodup_nil, by decide⟩
        · refine ⟨1, [(0, 0)], rfl, by omega, by omega, fun p h => ?_, List.pairwise_singleton _ _, by simp, by decide⟩
          rw [List.mem_singleton.mp h]
          decide
    generalize acc ++ [webD (12 + v) ts, D.tup [.int 0, .tup []], D.tup [.int 1, .tup [.tup [.int 0, .int 0]]]] = ds at all
    refine ok_loop (fun j r s => ∃ x2 x3, r = envL (.fix (ns.map .int)) x2 x3) ⟨none, none, rfl⟩ ?_ ?_
    · rintro i d r s hd ⟨x2, x3, rfl⟩
      obtain ⟨n, ts, rfl, hn, w⟩ := all d (List.mem_of_getElem? hd)
      simp only [asT, Res.bind_ok]
      exact law_in w hn fun x3 s => ⟨_, _, rfl⟩
    · rintro r s ⟨x2, x3, rfl⟩
      refine ok_ret ?_
      simp only [envL, evE, evT, evEs, evO, evL, ok_bindI, ok_okI, ok_optI, look, List.getElem?_cons_zero, List.getElem?_cons_succ, List.set_cons_zero, List.set_cons_succ, Option.some.injEq, exists_eq_left', Option.bind_some, Option.map_some, asBool, ltD, eqD]
      exact gc_any rfl (Nat.zero_le _) fun _ _ _ => rfl
end
end K03

namespace K03
open PySem PySem.Spec PyProof.Rows Wb
def topS (i : Nat) : Stmt := PySem.Challenge.pw_webintoweb_k03_ties_of_places.main.body.getD i (.Pass ⟨0, 0, 0, 0⟩)
def mkDef (x : Str) (i : Nat) : He.DefD := ⟨(x, none), x, x, L2.defArgs (topS i), L2.defBody (topS i), L2.defScope (topS i), [], []⟩
def gm : Gm := ⟨["has_tie", "outs", "ins", "loops", "_law_feed", "_law_draw", "_law_masked", "_law_web", "_law_wide", "_law_row_right", "law"], [], ["int", "len", "list", "range", "repr", "set", "sorted", "tuple"]⟩
def df0 : Df := ⟨mkDef "has_tie" 1, ["web", "a", "b"], ["web", "a", "b"], c_has_tie⟩
def df1 : Df := ⟨mkDef "outs" 2, ["web", "a", ".0", "one", "other"], ["web", "a"], c_outs⟩
def df2 : Df := ⟨mkDef "ins" 3, ["web", "a", ".0", "one", "other"], ["web", "a"], c_ins⟩
def df3 : Df := ⟨mkDef "loops" 4, ["web", ".0", "one", "other"], ["web"], c_loops⟩
def df4 : Df := ⟨mkDef "_law_feed" 6, ["_law_script"], ["_law_script"], c_law_feed⟩
def df5 : Df := ⟨mkDef "_law_draw" 7, ["_law_feed_here", "_law_many", "_law_digit", "_law_cell", "_law_mixed"], ["_law_feed_here", "_law_many"], c_law_draw⟩
def df6 : Df := ⟨mkDef "_law_masked" 8, ["_law_feed_here", "_law_n", "_law_way", "_law_found", "_law_a", "_law_mask", ".0", "_law_b"], ["_law_feed_here", "_law_n"], c_law_masked⟩
def df7 : Df := ⟨mkDef "_law_web" 9, ["_law_feed_here", "_law_most", "_law_n", "_law_kind", "_law_a", "_law_some", "_law_half", "_law_pair", ".0", "_law_b", "_law_one"], ["_law_feed_here", "_law_most"], c_law_web⟩
def df8 : Df := ⟨mkDef "_law_wide" 10, ["_law_n", "_law_found", ".0", "_law_a"], ["_law_n"], c_law_wide⟩
def df9 : Df := ⟨mkDef "_law_row_right" 11, ["_law_web_here", "_law_a", "_law_far", "_law_near", "_law_own", "_law_b", "_law_told"], ["_law_web_here", "_law_a"], c_law_row_right⟩
def df10 : Df := ⟨mkDef "law" 12, ["_law_script", "_law_feed_here", "_law_web_here", "_law_kept", ".0", "_law_k", "_law_a", "_law_b"], ["_law_script"], c_law⟩
def dfs : List Df := [df0, df1, df2, df3, df4, df5, df6, df7, df8, df9, df10]
theorem ok0 : df0.Ok gm := ⟨⟨rfl, rfl, rfl, by decide +kernel, rfl, by decide +kernel, by decide +kernel⟩, by kernel_rfl, fun _ _ _ _ _ _ us hl => match us, hl with | [_, _, _], _ => rfl⟩
theorem ok1 : df1.Ok gm := ⟨⟨rfl, rfl, rfl, by decide +kernel, rfl, by decide +kernel, by decide +kernel⟩, by kernel_rfl, fun _ _ _ _ _ _ us hl => match us, hl with | [_, _], _ => rfl⟩
theorem ok2 : df2.Ok gm := ⟨⟨rfl, rfl, rfl, by decide +kernel, rfl, by decide +kernel, by decide +kernel⟩, by kernel_rfl, fun _ _ _ _ _ _ us hl => match us, hl with | [_, _], _ => rfl⟩
theorem ok3 : df3.Ok gm := ⟨⟨rfl, rfl, rfl, by decide +kernel, rfl, by decide +kernel, by decide +kernel⟩, by kernel_rfl, fun _ _ _ _ _ _ us hl => match us, hl with | [_], _ => rfl⟩
theorem ok4 : df4.Ok gm := ⟨⟨rfl, rfl, rfl, by decide +kernel, rfl, by decide +kernel, by decide +kernel⟩, by kernel_rfl, fun _ _ _ _ _ _ us hl => match us, hl with | [_], _ => rfl⟩
theorem ok5 : df5.Ok gm := ⟨⟨rfl, rfl, rfl, by decide +kernel, rfl, by decide +kernel, by decide +kernel⟩, by kernel_rfl, fun _ _ _ _ _ _ us hl => match us, hl with | [_, _], _ => rfl⟩
theorem ok6 : df6.Ok gm := ⟨⟨rfl, rfl, rfl, by decide +kernel, rfl, by decide +kernel, by decide +kernel⟩, by kernel_rfl, fun _ _ _ _ _ _ us hl => match us, hl with | [_, _], _ => rfl⟩
theorem ok7 : df7.Ok gm := ⟨⟨rfl, rfl, rfl, by decide +kernel, rfl, by decide +kernel, by decide +kernel⟩, by kernel_rfl, fun _ _ _ _ _ _ us hl => match us, hl with | [_, _], _ => rfl⟩
theorem ok8 : df8.Ok gm := ⟨⟨rfl, rfl, rfl, by decide +kernel, rfl, by decide +kernel, by decide +kernel⟩, by kernel_rfl, fun _ _ _ _ _ _ us hl => match us, hl with | [_], _ => rfl⟩
theorem ok9 : df9.Ok gm := ⟨⟨rfl, rfl, rfl, by decide +kernel, rfl, by decide +kernel, by decide +kernel⟩, by kernel_rfl, fun _ _ _ _ _ _ us hl => match us, hl with | [_, _], _ => rfl⟩
theorem ok10 : df10.Ok gm := ⟨⟨rfl, rfl, rfl, by decide +kernel, rfl, by decide +kernel, by decide +kernel⟩, by kernel_rfl, fun _ _ _ _ _ _ us hl => match us, hl with | [_], _ => rfl⟩
theorem oks : ∀ x ∈ dfs, x.Ok gm := List.forall_mem_cons.mpr ⟨ok0, List.forall_mem_cons.mpr ⟨ok1, List.forall_mem_cons.mpr ⟨ok2, List.forall_mem_cons.mpr ⟨ok3, List.forall_mem_cons.mpr ⟨ok4, List.forall_mem_cons.mpr ⟨ok5, List.forall_mem_cons.mpr ⟨ok6, List.forall_mem_cons.mpr ⟨ok7, List.forall_mem_cons.mpr ⟨ok8, List.forall_mem_cons.mpr ⟨ok9, List.forall_mem_cons.mpr ⟨ok10, fun _ h => nomatch h⟩⟩⟩⟩⟩⟩⟩⟩⟩⟩⟩
theorem pls : ∀ x ∈ dfs, x.Plain := List.forall_mem_cons.mpr ⟨⟨rfl, rfl, rfl⟩, List.forall_mem_cons.mpr ⟨⟨rfl, rfl, rfl⟩, List.forall_mem_cons.mpr ⟨⟨rfl, rfl, rfl⟩, List.forall_mem_cons.mpr ⟨⟨rfl, rfl, rfl⟩, List.forall_mem_cons.mpr ⟨⟨rfl, rfl, rfl⟩, List.forall_mem_cons.mpr ⟨⟨rfl, rfl, rfl⟩, List.forall_mem_cons.mpr ⟨⟨rfl, rfl, rfl⟩, List.forall_mem_cons.mpr ⟨⟨rfl, rfl, rfl⟩, List.forall_mem_cons.mpr ⟨⟨rfl, rfl, rfl⟩, List.forall_mem_cons.mpr ⟨⟨rfl, rfl, rfl⟩, List.forall_mem_cons.mpr ⟨⟨rfl, rfl, rfl⟩, fun _ h => nomatch h⟩⟩⟩⟩⟩⟩⟩⟩⟩⟩⟩
def consts : List (Str × Int) := []
def fn : List He.DefD := [mkDef "has_tie" 1, mkDef "outs" 2, mkDef "ins" 3, mkDef "loops" 4, mkDef "_law_feed" 6, mkDef "_law_draw" 7, mkDef "_law_masked" 8, mkDef "_law_web" 9, mkDef "_law_wide" 10, mkDef "_law_row_right" 11, mkDef "law" 12]
def fa : List He.Fa := [.glo "has_tie", .glo "outs", .glo "ins", .glo "loops", .glo "_law_feed", .glo "_law_draw", .glo "_law_masked", .glo "_law_web", .glo "_law_wide", .glo "_law_row_right", .glo "law", .free "int", .free "len", .free "list", .free "range", .free "repr", .free "set", .free "sorted", .free "tuple"]
abbrev RowW : PySem.W.OpenRow := PySem.W.OpenLaw.row PySem.Challenge.rw_webintoweb_k03_ties_of_places
abbrev hk : PySem.W.Hook := He.hookD 4 fa fn
def ob (s : PySem.W.SharedT) : He.AlD := He.obsDG 4 fa fn (HandSHeadRun.getT s)
theorem ob_same (s : PySem.W.SharedT) : ob s = hk.obs s.abs := He.obsDG_eq (HandSHeadRun.getT_eq s)
def loose : List Str := (["has_tie", "outs", "ins", "loops", "_law_feed", "_law_draw", "_law_masked", "_law_web", "_law_wide", "_law_row_right"] : List Str)
theorem runs (w : World) : HandSHeadRun.RunEq RowW (PySem.W.view RowW.prog [12]) hk ob 400 loose w := by
  intro os
  kernel_rfl
theorem room : RoomG 4 callerA := ⟨⟨rfl, by decide, by decide⟩, rfl⟩
theorem plain (ns : List Int) : ∃ S, Wb.call (dfs.map Df.fn) 200 4 10 [.fix (ns.map .int)] [] = .ok (.bl true) S := by
  obtain ⟨d, S, e, h⟩ := law_ok (F := 200) (k := 0) ns
  subst h
  exact ⟨S, e⟩
theorem ends {P : Program} {w : World} {K : PySem.W.Frag} {h : Heap} {mg : Str → Option Value} {f : Addr} (inH : K.In h) (glob : h.Ns mainGlobals mg) (named : mg ("law" : Str) = some (.ref f)) (c : He.SaysD fa fn K) :
    ∃ fd : FuncData, (∀ (s : Shared) (v : Value), BindsTo s fd ⟨[v], []⟩ [("_law_script", v)]) ∧ ∀ ns : List Int, ns.length ≤ 63 → LawOk P w K mg 4 f fd "_law_script" ns :=
  law_of (G := gm) (dfs := dfs) (F := 200) (li := 10) (xl := df10) (cs := consts) inH glob c rfl rfl rfl rfl pls oks rfl rfl named fun ns _ => plain ns
end K03
open PySem PySem.W PySem.Calls PyProof.Rows
theorem PySem.Challenge.cw_webintoweb_k03_ties_of_places_holds : PySem.Challenge.rw_webintoweb_k03_ties_of_places.Holds := by
  w_on; o_law
  refine HandSHeadRun.head_any (r := OpenLaw.row PySem.Challenge.rw_webintoweb_k03_ties_of_places) (q := view (OpenLaw.row PySem.Challenge.rw_webintoweb_k03_ties_of_places).prog [12]) (H := K03.hk) (ob := K03.ob) (M := 400) (loose := K03.loose) (d := HandSHeadRun.topDef (OpenLaw.row PySem.Challenge.rw_webintoweb_k03_ties_of_places).prog 12) (kwd := []) K03.ob_same
    (by kernel_rfl) (fun s => by kernel_rfl) K03.runs (by kernel_rfl) (by kernel_rfl) (by kernel_rfl) (by rfl) (by first | assumption | decide +kernel) (by decide +kernel) ⟨rfl, rfl, rfl, rfl, rfl, by decide +kernel⟩ ?hw ?hc
  case hw => w_witness2
  case hc =>
    refine Wb.walk_ofG (l := PySem.Challenge.rw_webintoweb_k03_ties_of_places) (n := 63) (k := 4) (x := "_law_script") rfl (by decide) (by kernel_rfl) K03.room ?F
    intro w mg fa h Y G named
    obtain ⟨K, inH, c⟩ := Y
    have named2 : mg ("law" : PySem.Str) = some (.ref fa) := by
      have e : (HandSHeadRun.topDef (OpenLaw.row PySem.Challenge.rw_webintoweb_k03_ties_of_places).prog 12).name = ("law" : PySem.Str) := by kernel_rfl
      rw [← e]
      exact named
    obtain ⟨fd, bnd, ok⟩ := K03.ends (P := (PySem.Challenge.rw_webintoweb_k03_ties_of_places).prog) (w := w) inH G named2 c
    exact ⟨K, fd, inH, bnd, ok⟩
