import PyProof.Rows.All
import Wide.All
import OpenK.AllK
import Wide.FinOn
import HandS.ForMost
import HandS.ForExc
import HandS.Wide
import HandS.Gcd
import HandS.IsInst
import HandS.Zip
import HandS.TryMany
import HandS.RaiseOp
import HandS.EndBits
import HandS.Conv
import HandS.TupMul
import HandS.ExcInit
import HandS.ExcField
import PyProof.ReprRoads
import HandS.TupAny
import HandS.Style
import KE.DataEq
import KE.KRevSl
import KE.GoesMore
import PyProof.ReprLen
import KE.KDictKeyed
import PySem.Challenge.RW_onlycompared_k90_definings_judged
set_option Elab.async false
set_option linter.all false
set_option maxRecDepth 100000
set_option maxHeartbeats 8000000
/-! Part 1: a small language over pure data, what it means, and how its data stand in the layer's heap. -/
namespace OC
open PySem PySem.Spec PyProof.Rows L2

/-- a value: a tuple is what it holds; a list or a dict is a place in the store -/
inductive D where
  | non
  | bl (b : Bool)
  | int (i : Int)
  | str (s : Str)
  | tup (xs : List D)
  | frz (xs : List D)
  | loc (i : Nat)
  deriving Inhabited
mutual
def D.dec : (a b : D) → Decidable (a = b)
  | .non, .non => .isTrue rfl
  | .bl a, .bl b => if h : a = b then .isTrue (by rw [h]) else .isFalse (fun e => h (by injection e))
  | .int a, .int b => if h : a = b then .isTrue (by rw [h]) else .isFalse (fun e => h (by injection e))
  | .str a, .str b => if h : a = b then .isTrue (by rw [h]) else .isFalse (fun e => h (by injection e))
  | .loc a, .loc b => if h : a = b then .isTrue (by rw [h]) else .isFalse (fun e => h (by injection e))
  | .tup xs, .tup ys => (match D.decs xs ys with | .isTrue h => .isTrue (by rw [h]) | .isFalse h => .isFalse (fun e => h (by injection e)))
  | .frz xs, .frz ys => (match D.decs xs ys with | .isTrue h => .isTrue (by rw [h]) | .isFalse h => .isFalse (fun e => h (by injection e)))
  | .frz _, .non | .frz _, .bl _ | .frz _, .int _ | .frz _, .str _ | .frz _, .tup _ | .frz _, .loc _ => .isFalse (fun e => nomatch e)
  | .non, .frz _ | .bl _, .frz _ | .int _, .frz _ | .str _, .frz _ | .tup _, .frz _ | .loc _, .frz _ => .isFalse (fun e => nomatch e)
  | .non, .bl _ | .non, .int _ | .non, .str _ | .non, .tup _ | .non, .loc _ => .isFalse (fun e => nomatch e)
  | .bl _, .non | .bl _, .int _ | .bl _, .str _ | .bl _, .tup _ | .bl _, .loc _ => .isFalse (fun e => nomatch e)
  | .int _, .non | .int _, .bl _ | .int _, .str _ | .int _, .tup _ | .int _, .loc _ => .isFalse (fun e => nomatch e)
  | .str _, .non | .str _, .bl _ | .str _, .int _ | .str _, .tup _ | .str _, .loc _ => .isFalse (fun e => nomatch e)
  | .tup _, .non | .tup _, .bl _ | .tup _, .int _ | .tup _, .str _ | .tup _, .loc _ => .isFalse (fun e => nomatch e)
  | .loc _, .non | .loc _, .bl _ | .loc _, .int _ | .loc _, .str _ | .loc _, .tup _ => .isFalse (fun e => nomatch e)
def D.decs : (a b : List D) → Decidable (a = b)
  | [], [] => .isTrue rfl
  | x :: xs, y :: ys => (match D.dec x y, D.decs xs ys with
    | .isTrue h, .isTrue k => .isTrue (by rw [h, k])
    | .isFalse h, _ => .isFalse (fun e => h (by injection e))
    | _, .isFalse k => .isFalse (fun e => k (by injection e)))
  | [], _ :: _ | _ :: _, [] => .isFalse (fun e => nomatch e)
end
instance : DecidableEq D := D.dec

/-- what the store holds: a list -/
inductive GO where
  | lst (xs : List D)
  deriving Inhabited, DecidableEq
abbrev GH := List GO

inductive R (α : Type) where
  | ok (a : α) (G : GH)
  | exn (c : Str) (f : Option D) (G : GH)
  | bad
abbrev M (α : Type) := GH → R α
def mret {α : Type} (a : α) : M α := fun G => .ok a G
def mbad {α : Type} : M α := fun _ => .bad
def mbind {α β : Type} (m : M α) (f : α → M β) : M β := fun G =>
  match m G with
  | .ok a G1 => f a G1
  | .exn c v G1 => .exn c v G1
  | .bad => .bad

instance : Monad M where
  pure := mret
  bind := mbind
inductive Ty where
  | int | bool | str | tup | lst
  deriving DecidableEq
inductive Bi where
  | len | abs | int | sum | all | any | tuple | list | max2 | min2 | gcd | repr | max1 | min1
  deriving DecidableEq
inductive Op2 where
  | add | sub | mul | fdiv | mod | pow
  deriving DecidableEq
inductive Cmp where
  | lt | le | gt | ge | eq | ne | is | isnot | isin | notin
  deriving DecidableEq
inductive Mt where
  | append | extend | index
  deriving DecidableEq

/-- a target: a name's slot, or several, taken out of a tuple -/
inductive IT where
  | nm (i : Nat)
  | tup (is : List Nat)

mutual
inductive IE where
  | k (d : D)
  | v (i : Nat)
  | gl (x : Str) (d : D)
  | tup (es : IEs)
  | lst (es : IEs)
  | op (o : Op2) (a b : IE)
  | neg (a : IE)
  | not (a : IE)
  | bool (isAnd : Bool) (es : IEs)
  | cmp (o : Cmp) (a b : IE)
  | ife (t a b : IE)
  | idx (a b : IE)
  | kidx (x : Str) (tbl : List (D × D)) (b : IE)
  | slice (a : IE) (lo hi : IO)
  | rev (a : IE)
  | tupR (a : IE)
  | call (f : Nat) (es : IEs) (kws : List Nat) (ks : IEs)
  | bi (b : Bi) (es : IEs)
  | isin (a : IE) (ts : List Ty)
  | meth (m : Mt) (o : IE) (es : IEs)
  | comp (own : List (Str × Nat)) (elt : IE) (t : IT) (it : II) (c : IO)
inductive IEs where
  | nil
  | cons (e : IE) (es : IEs)
inductive IO where
  | none
  | some (e : IE)
inductive II where
  | sq (e : IE)
  | rng1 (a : IE)
  | rng2 (a b : IE)
  | enm (e : IE)
  | zip (a b : IE)
end

mutual
inductive IS where
  | set (t : IT) (e : IE)
  | setI (o i e : IE)
  | aug (i : Nat) (o : Op2) (e : IE)
  | ex (e : IE)
  | ret (e : IE)
  | retN
  | ifs (t : IE) (a b : ISs)
  | for (t : IT) (it : II) (b : ISs)
  | raiseT (c : Str)
  | raiseF (c fl : Str) (e : IE)
  | any
  | try (known : List Str) (b : ISs) (hs : IHs)
  | pass
  | brk
  | cont
inductive ISs where
  | nil
  | cons (s : IS) (ss : ISs)
inductive IHs where
  | nil
  | cons (c : Str) (b : ISs) (hs : IHs)
  | as (c : Str) (i : Nat) (fl : Str) (t : Nat) (hs : IHs)
end

abbrev Env' := List (Option D)
inductive Fl where
  | nx (σ : Env')
  | bk (σ : Env')
  | ct (σ : Env')
  | rt (d : D)
  | xn (c : Str) (f : Option D) (σ : Env')

/-! ### values -/
def getL (d : D) : M (List D) := fun G =>
  match d with
  | .frz xs => .ok xs G
  | .loc i => (match G[i]? with
    | some (.lst xs) => .ok xs G
    | none => .bad)
  | _ => .bad
def getS (d : D) : M (List D) := fun G =>
  match d with
  | .tup xs => .ok xs G
  | d => getL d G
/-- a new list -/
def newL (xs : List D) : M D := fun G => if xs.length ≤ sizeLine then .ok (.loc G.length) (G ++ [.lst xs]) else .bad
def putL (i : Nat) (xs : List D) : M D := fun G => if xs.length ≤ sizeLine then .ok .non (G.set i (.lst xs)) else .bad
def mkT (xs : List D) : M D := if xs.length ≤ sizeLine then mret (.tup xs) else mbad

mutual
/-- no list within -/
def pureD : D → Bool
  | .tup xs => pureDs xs
  | .frz _ | .loc _ => false
  | .non | .bl _ | .int _ | .str _ => true
def pureDs : List D → Bool
  | [] => true
  | x :: xs => pureD x && pureDs xs
end
mutual
/-- == -/
def eqv : D → D → Bool
  | .non, .non => true
  | .bl a, .bl b => a == b
  | .bl a, .int j => (if a then 1 else 0) == j
  | .int i, .bl b => i == (if b then 1 else 0)
  | .int i, .int j => i == j
  | .str x, .str y => x == y
  | .tup xs, .tup ys => eqvs xs ys
  | _, _ => false
def eqvs : List D → List D → Bool
  | [], [] => true
  | x :: xs, y :: ys => eqv x y && eqvs xs ys
  | _, _ => false
end
mutual
def dep : D → Nat
  | .tup xs => deps xs + 1
  | _ => 0
def deps : List D → Nat
  | [] => 0
  | x :: xs => max (dep x) (deps xs)
end
/-- a list of things each of which is there -/
def mapO {α β : Type} (f : α → Option β) : List α → Option (List β)
  | [] => some []
  | x :: xs => match f x, mapO f xs with
    | some y, some ys => some (y :: ys)
    | _, _ => none
/-- what stands for a value, lists looked up in the store, nested less deep than a number -/
def rs (G : GH) : Nat → D → Option PyData
  | 0, _ => none
  | _ + 1, .non => some .none
  | _ + 1, .bl b => some (.bool b)
  | _ + 1, .int i => some (.int i)
  | _ + 1, .str x => some (.str x)
  | n + 1, .tup xs => (mapO (rs G n) xs).map .tuple
  | n + 1, .frz xs => (mapO (rs G n) xs).map .list
  | n + 1, .loc i => match G[i]? with
    | some (.lst xs) => (mapO (rs G n) xs).map .list
    | none => none
def eqD (a b : D) : M Bool := fun G => match rs G 64 a, rs G 64 b with
  | some p, some q => .ok (PyData.eqv p q) G
  | _, _ => .bad
/-- in -/
def inD (a b : D) : M Bool := getS b >>= fun ys => fun G => match mapO (rs G 64) ys, rs G 64 a with
  | some ps, some q => .ok (ps.any fun p => PyData.eqv p q) G
  | _, _ => .bad
/-- the text of a value, where it has one that is not too long -/
def txt? (G : GH) (n : Nat) (d : D) : Option Str := match rs G 30 d with
  | some p => if p.showable = true ∧ p.shown.length + n ≤ sizeLine then some p.shown else none
  | none => none
noncomputable section
/-- sizes of ints -/
def bigBits : Nat := 60000000
def divBits : Nat := 9000
def fits (i : Int) : Prop := i.natAbs < 2 ^ bigBits
noncomputable instance (i : Int) : Decidable (fits i) := Classical.propDecidable _
def fitsD (i : Int) : Prop := i.natAbs < 2 ^ divBits
noncomputable instance (i : Int) : Decidable (fitsD i) := Classical.propDecidable _
def fitsP (i j : Int) : Prop := 0 ≤ j ∧ j ≤ 1000000 ∧ i.natAbs < 2 ^ 64
noncomputable instance (i j : Int) : Decidable (fitsP i j) := Classical.propDecidable _
/-- a product: one factor small, or both of less than many bits -/
def mulOk (i j : Int) : Prop := i.natAbs < 2 ^ 63 ∨ j.natAbs < 2 ^ 63 ∨ (fits i ∧ fits j)
noncomputable instance (i j : Int) : Decidable (mulOk i j) := Classical.propDecidable _
def opD (o : Op2) (a b : D) : M D :=
  match o, a, b with
  | .add, .int i, .int j => mret (.int (i + j))
  | .sub, .int i, .int j => mret (.int (i - j))
  | .mul, .int i, .int j => if mulOk i j then mret (.int (i * j)) else mbad
  | .mul, .tup xs, .int j => if xs.length ≤ 1000 ∧ 0 ≤ j ∧ j ≤ 1000 then mret (.tup (List.replicate j.toNat xs).flatten) else mbad
  | .mul, .loc i, .int j => fun G => (match G[i]? with
    | some (.lst xs) => if 0 ≤ j ∧ j ≤ 1000000 ∧ xs.length * j.toNat ≤ sizeLine then newL (List.replicate j.toNat xs).flatten G else .bad
    | none => .bad)
  | .fdiv, .int i, .int j => if 0 < j ∧ fitsD j then mret (.int (i / j)) else mbad
  | .mod, .int i, .int j => if 0 < j then mret (.int (i % j)) else mbad
  | .pow, .int i, .int j => if fitsP i j then mret (.int (i ^ j.toNat)) else mbad
  | .add, .tup xs, .tup ys => mkT (xs ++ ys)
  | .add, .loc i, .loc j => fun G => (match G[i]?, G[j]? with
    | some (.lst xs), some (.lst ys) => newL (xs ++ ys) G
    | _, _ => .bad)
  | _, _, _ => mbad
def isNon : D → Bool
  | .non => true
  | _ => false
def cmpD (o : Cmp) (a b : D) : M D :=
  match o with
  | .lt => (match a, b with | .int i, .int j => mret (.bl (decide (i < j))) | _, _ => mbad)
  | .le => (match a, b with | .int i, .int j => mret (.bl (decide (i ≤ j))) | _, _ => mbad)
  | .gt => (match a, b with | .int i, .int j => mret (.bl (decide (j < i))) | _, _ => mbad)
  | .ge => (match a, b with | .int i, .int j => mret (.bl (decide (j ≤ i))) | _, _ => mbad)
  | .eq => eqD a b >>= fun c => mret (.bl c)
  | .ne => eqD a b >>= fun c => mret (.bl (!c))
  | .is => (match b with | .non => mret (.bl (isNon a)) | .bl c => (match a with | .bl d => mret (.bl (decide (d = c))) | _ => mbad) | _ => mbad)
  | .isnot => (match b with | .non => mret (.bl (!isNon a)) | .bl c => (match a with | .bl d => mret (.bl (!decide (d = c))) | _ => mbad) | _ => mbad)
  | .isin => inD a b >>= fun c => mret (.bl c)
  | .notin => inD a b >>= fun c => mret (.bl (!c))
def atD (xs : List D) (i : Int) : M D := match atI xs i with
  | some d => mret d
  | none => mbad
def idxD (a b : D) : M D :=
  match b with
  | .int i => getS a >>= fun xs => atD xs i
  | _ => mbad
def cutD (xs : List D) (lo hi : Option Int) : List D := (xs.drop (HT.sIx xs.length 0 lo)).take (HT.sIx xs.length xs.length hi - HT.sIx xs.length 0 lo)
def sliceD (a : D) (lo hi : Option Int) : M D := fun G =>
  match a with
  | .tup xs => .ok (.tup (cutD xs lo hi)) G
  | .frz xs => newL (cutD xs lo hi) G
  | .loc i => (match G[i]? with
    | some (.lst xs) => newL (cutD xs lo hi) G
    | none => .bad)
  | _ => .bad
def revD (a : D) : M D := fun G =>
  match a with
  | .tup xs => .ok (.tup xs.reverse) G
  | _ => .bad
def ints? : List D → Option (List Int)
  | [] => some []
  | .int i :: xs => (ints? xs).map (i :: ·)
  | _ :: _ => none
def bls? : List D → Option (List Bool)
  | [] => some []
  | .bl b :: xs => (bls? xs).map (b :: ·)
  | _ :: _ => none
def biD (b : Bi) (vs : List D) : M D :=
  match b, vs with
  | .len, [a] => getS a >>= fun xs => mret (.int xs.length)
  | .abs, [.int i] => mret (.int (if i < 0 then -i else i))
  | .int, [.int i] => mret (.int i)
  | .int, [.bl c] => mret (.int (if c then 1 else 0))
  | .sum, [a] => getL a >>= fun xs => (match ints? xs with | some ns => mret (.int ns.sum) | none => mbad)
  | .all, [a] => getL a >>= fun xs => (match bls? xs with | some bs => mret (.bl (bs.all id)) | none => mbad)
  | .any, [a] => getL a >>= fun xs => (match bls? xs with | some bs => mret (.bl (bs.any id)) | none => mbad)
  | .tuple, [a] => getS a >>= fun xs => mret (.tup xs)
  | .list, [a] => getS a >>= newL
  | .max2, [.int i, .int j] => mret (.int (if j > i then j else i))
  | .min2, [.int i, .int j] => mret (.int (if j < i then j else i))
  | .gcd, [.int i, .int j] => mret (.int ((Nat.gcd i.natAbs j.natAbs : Nat) : Int))
  | .repr, [a] => fun G => (match txt? G 0 a with
    | some x => .ok (.str x) G
    | none => .bad)
  | _, _ => mbad
def isTy (G : GH) : D → Ty → Option Bool
  | .non, _ => some false
  | .bl _, t => some (t == .bool || t == .int)
  | .int _, t => some (t == .int)
  | .str _, t => some (t == .str)
  | .tup _, t => some (t == .tup)
  | .frz _, t => some (t == .lst)
  | .loc i, t => (match G[i]? with
    | some (.lst _) => some (t == .lst)
    | none => none)
def isTys (G : GH) (d : D) : List Ty → Option Bool
  | [] => some false
  | t :: ts => (isTy G d t).bind fun b => (isTys G d ts).map fun c => b || c
def isinD (a : D) (ts : List Ty) : M D := fun G => match isTys G a ts with
  | some b => .ok (.bl b) G
  | none => .bad
/-- flat data -/
def flatD : D → Bool
  | .non | .bl _ | .int _ | .str _ => true
  | _ => false
def methD (m : Mt) (o : D) (vs : List D) : M D :=
  match m, o, vs with
  | .append, .loc i, [x] => fun G => (match G[i]? with
    | some (.lst xs) => if xs.length < sizeLine then .ok .non (G.set i (.lst (xs ++ [x]))) else .bad
    | _ => .bad)
  | .extend, .loc i, [.loc j] => fun G => (match G[i]?, G[j]? with
    | some (.lst xs), some (.lst ys) => if i ≠ j ∧ xs.length + ys.length ≤ sizeLine then .ok .non (G.set i (.lst (xs ++ ys))) else .bad
    | _, _ => .bad)
  | .index, .loc i, [x] => fun G => (match G[i]? with
    | some (.lst xs) => (match xs.findIdx? (fun y => eqv y x) with
      | some j => if flatD x = true ∧ xs.all flatD = true then .ok (.int (j : Nat)) G else .bad
      | none => .bad)
    | none => .bad)
  | _, _, _ => mbad
def kidxD (tbl : List (D × D)) (b : D) : M D := match tbl.find? (fun p => decide (p.1 = b)) with
  | some p => mret p.2
  | none => mbad

def assignT : IT → D → Env' → Option Env'
  | .nm i, d, σ => some (σ.set i (some d))
  | .tup is, .tup ds, σ => if is.length = ds.length then some (setAll is ds σ) else none
  | .tup _, _, _ => none
where
  setAll : List Nat → List D → Env' → Env'
    | i :: is, d :: ds, σ => setAll is ds (σ.set i (some d))
    | _, _, σ => σ
def wipeD (σ : Env') : List Nat → Env'
  | [] => σ
  | v :: vs => (wipeD σ vs).set v none

/-- the lists that a loop walks: they must stand -/
abbrev Guard := List (Nat × List D)
def chkG (gs : Guard) (G : GH) : Bool := gs.all fun p => match G[p.1]? with
  | some (.lst ys) => decide (ys = p.2)
  | none => false
def seqI (d : D) : M (List D × Guard) := fun G =>
  match d with
  | .tup xs => .ok (xs, []) G
  | .frz xs => .ok (xs, []) G
  | .loc i => (match G[i]? with
    | some (.lst xs) => .ok (xs, [(i, xs)]) G
    | none => .bad)
  | _ => .bad
def rngD (lo : Int) : Nat → List D
  | 0 => []
  | n + 1 => .int lo :: rngD (lo + 1) n
def enmD (lo : Int) : List D → List D
  | [] => []
  | x :: xs => .tup [.int lo, x] :: enmD (lo + 1) xs
def zipD : List D → List D → List D
  | x :: xs, y :: ys => .tup [x, y] :: zipD xs ys
  | _, _ => []
def isTup : D → Bool
  | .tup _ => true
  | _ => false
def small (i : Int) : Prop := -(2 ^ 62) ≤ i ∧ i < 2 ^ 62
instance (i : Int) : Decidable (small i) := by unfold small; infer_instance

def loopG (gs : Guard) (turn : D → Env' → M Fl) : List D → Env' → M Fl
  | [], σ => fun G => if chkG gs G then .ok (.nx σ) G else .bad
  | x :: xs, σ => fun G => if chkG gs G then (match turn x σ G with
    | .ok (.nx σ1) G1 => loopG gs turn xs σ1 G1
    | .ok (.ct σ1) G1 => loopG gs turn xs σ1 G1
    | .ok (.bk σ1) G1 => .ok (.nx σ1) G1
    | .ok (.rt d) G1 => .ok (.rt d) G1
    | .ok (.xn c f σ1) G1 => .ok (.xn c f σ1) G1
    | .exn _ _ _ => .bad
    | .bad => .bad) else .bad
/-- a comprehension: what it makes stands at l -/
def compG (gs : Guard) (l : Nat) (turn : D → M (Option D)) : List D → M Unit
  | [] => fun G => if chkG gs G then .ok () G else .bad
  | x :: xs => fun G => if chkG gs G then (match turn x G with
    | .ok none G1 => compG gs l turn xs G1
    | .ok (some d) G1 => (match G1[l]? with
      | some (.lst acc) => if acc.length < sizeLine then compG gs l turn xs (G1.set l (.lst (acc ++ [d]))) else .bad
      | _ => .bad)
    | .exn _ _ _ => .bad
    | .bad => .bad) else .bad

/-! ### the meaning -/
abbrev Calls := Nat → List D → M D
/-- the arguments in the parameters' order: the places of those that come by keyword -/
def reorder {α : Type} (kws : List Nat) (ds ks : List α) : Option (List α) :=
  (List.range (ds.length + ks.length)).mapM fun i => if i < ds.length then ds[i]? else (kws.zip ks).lookup i

def boolTurn (isAnd : Bool) (d : D) (rest : M D) : M D :=
  match d with
  | .bl b => if b = isAnd then rest else mret (.bl b)
  | _ => mbad

mutual
def den (c : Calls) : IE → Env' → M D
  | .k d, _ => mret d
  | .v i, σ => fun G => (match σ[i]? with
    | some (some d) => .ok d G
    | _ => .bad)
  | .gl _ d, _ => mret d
  | .tup es, σ => denEs c es σ >>= mkT
  | .lst es, σ => denEs c es σ >>= newL
  | .op o a b, σ => den c a σ >>= fun x => den c b σ >>= fun y => opD o x y
  | .neg a, σ => den c a σ >>= fun x => (match x with | .int i => mret (.int (-i)) | _ => mbad)
  | .not a, σ => den c a σ >>= fun x => (match x with | .bl b => mret (.bl (!b)) | _ => mbad)
  | .bool w es, σ => denB c w es σ
  | .cmp o a b, σ => den c a σ >>= fun x => den c b σ >>= fun y => cmpD o x y
  | .ife t a b, σ => den c t σ >>= fun x => (match x with | .bl true => den c a σ | .bl false => den c b σ | _ => mbad)
  | .idx a b, σ => den c a σ >>= fun x => den c b σ >>= fun y => idxD x y
  | .kidx _ tbl b, σ => den c b σ >>= fun y => kidxD tbl y
  | .slice a lo hi, σ => den c a σ >>= fun x => denO c lo σ >>= fun l => denO c hi σ >>= fun h => sliceD x l h
  | .rev a, σ => den c a σ >>= revD
  | .tupR a, σ => den c a σ >>= fun x => (match x with | .int j => if j ≤ 16777216 ∧ 0 ≤ j then mret (.tup (rngD 0 j.toNat)) else mbad | _ => mbad)
  | .call f es kws ks, σ => denEs c es σ >>= fun ds => (match kws with
    | [] => c f ds
    | _ => denEs c ks σ >>= fun us => (match reorder kws ds us with
      | some zs => c f zs
      | none => mbad))
  | .bi b es, σ => denEs c es σ >>= biD b
  | .isin a ts, σ => den c a σ >>= fun x => isinD x ts
  | .meth m o es, σ => den c o σ >>= fun x => (match x with
    | .loc i => denEs c es σ >>= fun ds => methD m (.loc i) ds
    | _ => mbad)
  | .comp own elt t it cond, σ => denI c it σ >>= fun src => newL [] >>= fun d => (match d with
    | .loc l => compG src.2 l (fun x => (match assignT t x (wipeD σ (own.map (·.2))) with
      | none => mbad
      | some σ2 => (match cond with
        | .none => den c elt σ2 >>= fun y => mret (some y)
        | .some e => den c e σ2 >>= fun b => (match b with
          | .bl true => den c elt σ2 >>= fun y => mret (some y)
          | .bl false => mret none
          | _ => mbad)))) src.1 >>= fun _ => mret (.loc l)
    | _ => mbad)
def denEs (c : Calls) : IEs → Env' → M (List D)
  | .nil, _ => mret []
  | .cons e es, σ => den c e σ >>= fun x => denEs c es σ >>= fun xs => mret (x :: xs)
/-- and, or: of bools -/
def denB (c : Calls) (w : Bool) : IEs → Env' → M D
  | .nil, _ => mbad
  | .cons e .nil, σ => den c e σ
  | .cons e es, σ => den c e σ >>= fun x => boolTurn w x (denB c w es σ)
def denO (c : Calls) : IO → Env' → M (Option Int)
  | .none, _ => mret none
  | .some e, σ => den c e σ >>= fun x => (match x with | .int i => mret (some i) | _ => mbad)
def denI (c : Calls) : II → Env' → M (List D × Guard)
  | .sq e, σ => den c e σ >>= seqI
  | .rng1 a, σ => den c a σ >>= fun x => (match x with | .int j => if small j then mret (rngD 0 j.toNat, []) else mbad | _ => mbad)
  | .rng2 a b, σ => den c a σ >>= fun x => den c b σ >>= fun y => (match x, y with | .int i, .int j => if small i ∧ small j then mret (rngD i (j - i).toNat, []) else mbad | _, _ => mbad)
  | .enm e, σ => den c e σ >>= seqI >>= fun p => mret (enmD 0 p.1, p.2)
  | .zip a b, σ => den c a σ >>= fun x => den c b σ >>= fun y => seqI x >>= fun p => seqI y >>= fun q => if isTup x = isTup y then mret (zipD p.1 q.1, p.2 ++ q.2) else mbad
end

def augD (o : Op2) (a b : D) : M D :=
  match o, a, b with
  | .add, .int i, .int j => mret (.int (i + j))
  | .sub, .int i, .int j => mret (.int (i - j))
  | _, _, _ => mbad
/-- an expression within a statement: what it raises becomes the statement's end -/
def within (m : M D) (σ : Env') (f : D → M Fl) : M Fl := fun G =>
  match m G with
  | .ok d G1 => f d G1
  | .exn c v G1 => .ok (.xn c v σ) G1
  | .bad => .bad
def thenS (m : M Fl) (f : Env' → M Fl) : M Fl := fun G =>
  match m G with
  | .ok (.nx σ) G1 => f σ G1
  | .ok r G1 => .ok r G1
  | .exn _ _ _ => .bad
  | .bad => .bad
def withinI (m : M (List D × Guard)) (σ : Env') (f : List D × Guard → M Fl) : M Fl := fun G =>
  match m G with
  | .ok d G1 => f d G1
  | .exn c v G1 => .ok (.xn c v σ) G1
  | .bad => .bad
/-- a suite that lets nothing out -/
def noXn (m : M Fl) : M Fl := fun G => match m G with
  | .ok (.xn _ _ _) _ => .bad
  | r => r
mutual
def denS (c : Calls) : IS → Env' → M Fl
  | .set t e, σ => within (den c e σ) σ fun d => (match assignT t d σ with | some σ1 => mret (.nx σ1) | none => mbad)
  | .setI o i e, σ => within (den c e σ) σ fun d => within (den c o σ) σ fun x => within (den c i σ) σ fun y => fun G =>
    (match x, y with
    | .loc l, .int k => (match G[l]? with
      | some (.lst xs) => (match ixN xs.length k with
        | some j => .ok (.nx σ) (G.set l (.lst (xs.set j d)))
        | none => .bad)
      | _ => .bad)
    | _, _ => .bad)
  | .aug i o e, σ => (match σ[i]? with
    | some (some x) => within (den c e σ) σ fun y => within (augD o x y) σ fun z => mret (.nx (σ.set i (some z)))
    | _ => mbad)
  | .ex e, σ => within (den c e σ) σ fun _ => mret (.nx σ)
  | .ret e, σ => within (den c e σ) σ fun d => mret (.rt d)
  | .retN, _ => mret (.rt .non)
  | .ifs t a b, σ => within (den c t σ) σ fun x => (match x with
    | .bl true => denSs c a σ
    | .bl false => denSs c b σ
    | _ => mbad)
  | .for t it b, σ => withinI (denI c it σ) σ fun src => loopG src.2 (fun x σ1 => (match assignT t x σ1 with | some σ2 => denSs c b σ2 | none => mbad)) src.1 σ
  | .raiseT cl, σ => mret (.xn cl none σ)
  | .raiseF cl fl e, σ => within (den c e σ) σ fun d => fun G => (match (match d with | .str _ => none | d => txt? G 1000 d) with
    | some _ => .ok (.xn cl (some (.tup [.str fl, d])) σ) G
    | none => .bad)
  | .any, _ => mbad
  | .try known b hs, σ => fun G => (match denSs c b σ G with
    | .ok (.xn cl f σ1) G1 => if known.contains cl then denH c hs cl f σ1 G1 else .bad
    | r => r)
  | .pass, σ => mret (.nx σ)
  | .brk, σ => mret (.bk σ)
  | .cont, σ => mret (.ct σ)
def denSs (c : Calls) : ISs → Env' → M Fl
  | .nil, σ => mret (.nx σ)
  | .cons s ss, σ => thenS (denS c s σ) fun σ1 => denSs c ss σ1
def denH (c : Calls) : IHs → Str → Option D → Env' → M Fl
  | .nil, cl, f, σ => mret (.xn cl f σ)
  | .cons x b hs, cl, f, σ => if x = cl then noXn (denSs c b σ) else denH c hs cl f σ
  | .as x i fl t hs, cl, f, σ => if x = cl then (match f with | some (.tup [.str g, d]) => (if g = fl ∧ i < σ.length then mret (.nx ((σ.set t (some d)).set i none)) else mbad) | _ => mbad) else denH c hs cl f σ
end

/-- a def: its parameters, all its names, its body -/
structure Fn where
  name : Str
  params : List Str
  N : List Str
  body : ISs
abbrev Prg := List Fn
def startD (n : Nat) (ds : List D) : Env' := ds.map some ++ List.replicate (n - ds.length) none
def callN (P : Prg) : Nat → Calls
  | 0 => fun _ _ => mbad
  | n + 1 => fun f ds G => (match P[f]? with
    | none => .bad
    | some fn => if ds.length = fn.params.length then (match denSs (callN P n) fn.body (startD fn.N.length ds) G with
      | .ok (.nx _) G1 => .ok .non G1
      | .ok (.rt d) G1 => .ok d G1
      | .ok (.xn c f _) G1 => .exn c f G1
      | _ => .bad) else .bad)
end
end OC

/-! Part 2: how the data stand in the layer's heap; the operations by values. -/
namespace OC
open PySem PySem.Spec PyProof.Rows L2

/-- a list that nobody writes: known to its object, or written by the top -/
def SqF (K : PySem.W.Frag) (H : Hp) (a : Addr) (xs : List V) : Prop :=
  (∃ o, H a = some (.frz o (.lst xs))) ∨
    ∃ (o : Obj) (its : Array Value) (n : Nat), K.lookup a = some o ∧ o.cls = .type "list" ∧ o.dict = none ∧ o.data = .seq its n ∧ its.size ≤ sizeLine ∧ Vals xs its.toList
theorem SqF.l {K : PySem.W.Frag} {H : Hp} {a : Addr} {xs : List V} (h : SqF K H a xs) : SqL K H a xs := by
  rcases h with h | h
  · exact .inl (.inr h)
  · exact .inr h
variable {K : PySem.W.Frag} {mg : Str → Option Value}
mutual
def RepV (K : PySem.W.Frag) (ρ : List Addr) (H : Hp) : D → V → Prop
  | .non, v => v = .non
  | .bl b, v => v = .bl b
  | .int i, v => v = .int i
  | .str s, v => v = .str s
  | .tup xs, v => ∃ a vs, v = .ref a ∧ SqT K H a vs ∧ RepVs K ρ H xs vs
  | .frz xs, v => ∃ a vs, v = .ref a ∧ SqF K H a vs ∧ RepVs K ρ H xs vs
  | .loc i, v => ∃ a, v = .ref a ∧ ρ[i]? = some a
def RepVs (K : PySem.W.Frag) (ρ : List Addr) (H : Hp) : List D → List V → Prop
  | [], vs => vs = []
  | x :: xs, vs => ∃ v r, vs = v :: r ∧ RepV K ρ H x v ∧ RepVs K ρ H xs r
end
structure Ext (K : PySem.W.Frag) (ρ : List Addr) (H : Hp) (ρ' : List Addr) (H' : Hp) : Prop where
  pre : ∃ t, ρ' = ρ ++ t
  tups : ∀ a xs, SqT K H a xs → SqT K H' a xs
  frzs : ∀ a o u, H a = some (.frz o u) → H' a = some (.frz o u)
theorem Ext.refl {ρ : List Addr} {H : Hp} : Ext K ρ H ρ H := ⟨⟨[], by simp⟩, fun _ _ h => h, fun _ _ _ h => h⟩
theorem Ext.trans {ρ ρ1 ρ2 : List Addr} {H H1 H2 : Hp} (a : Ext K ρ H ρ1 H1) (b : Ext K ρ1 H1 ρ2 H2) : Ext K ρ H ρ2 H2 := by
  obtain ⟨t, rfl⟩ := a.pre
  obtain ⟨u, rfl⟩ := b.pre
  exact ⟨⟨t ++ u, by simp⟩, fun c xs h => b.tups c xs (a.tups c xs h), fun c o u h => b.frzs c o u (a.frzs c o u h)⟩
theorem Ext.at {ρ ρ' : List Addr} {H H' : Hp} (e : Ext K ρ H ρ' H') {i : Nat} {a : Addr} (h : ρ[i]? = some a) : ρ'[i]? = some a := by
  obtain ⟨t, rfl⟩ := e.pre
  have hl : i < ρ.length := (List.getElem?_eq_some_iff.mp h).1
  rw [List.getElem?_append_left hl]; exact h
theorem Ext.frz {ρ ρ' : List Addr} {H H' : Hp} (e : Ext K ρ H ρ' H') {a : Addr} {xs : List V} (h : SqF K H a xs) : SqF K H' a xs := by
  rcases h with ⟨o, h⟩ | h
  · exact .inl ⟨o, e.frzs _ _ _ h⟩
  · exact .inr h
mutual
theorem RepV.ext {ρ ρ' : List Addr} {H H' : Hp} (e : Ext K ρ H ρ' H') : ∀ {d : D} {v : V}, RepV K ρ H d v → RepV K ρ' H' d v
  | .non, _, h => h
  | .bl _, _, h => h
  | .int _, _, h => h
  | .str _, _, h => h
  | .tup xs, v, h => by
    obtain ⟨a, vs, h1, h2, h3⟩ := h
    exact ⟨a, vs, h1, e.tups _ _ h2, RepVs.ext e h3⟩
  | .frz xs, v, h => by
    obtain ⟨a, vs, h1, h2, h3⟩ := h
    exact ⟨a, vs, h1, e.frz h2, RepVs.ext e h3⟩
  | .loc i, v, h => by
    obtain ⟨a, h1, h2⟩ := h
    exact ⟨a, h1, e.at h2⟩
theorem RepVs.ext {ρ ρ' : List Addr} {H H' : Hp} (e : Ext K ρ H ρ' H') : ∀ {ds : List D} {vs : List V}, RepVs K ρ H ds vs → RepVs K ρ' H' ds vs
  | [], _, h => h
  | x :: xs, vs, h => by
    obtain ⟨v, r, h1, h2, h3⟩ := h
    exact ⟨v, r, h1, RepV.ext e h2, RepVs.ext e h3⟩
end
section
variable {ρ : List Addr} {H : Hp}
theorem RepVs.length : ∀ {ds : List D} {vs : List V}, RepVs K ρ H ds vs → vs.length = ds.length
  | [], _, h => by rw [show _ = _ from h]; rfl
  | x :: xs, vs, h => by
    obtain ⟨v, r, h1, h2, h3⟩ := h
    rw [h1]; simp [RepVs.length h3]
theorem RepVs.get : ∀ {ds : List D} {vs : List V} {i : Nat} {d : D}, RepVs K ρ H ds vs → ds[i]? = some d → ∃ v, vs[i]? = some v ∧ RepV K ρ H d v
  | [], _, i, d, h, e => by simp at e
  | x :: xs, vs, 0, d, h, e => by
    obtain ⟨v, r, h1, h2, h3⟩ := h
    simp at e; subst e
    exact ⟨v, by rw [h1]; rfl, h2⟩
  | x :: xs, vs, i + 1, d, h, e => by
    obtain ⟨v, r, h1, h2, h3⟩ := h
    obtain ⟨w, h4, h5⟩ := RepVs.get (i := i) h3 (by simpa using e)
    exact ⟨w, by rw [h1]; simpa using h4, h5⟩
theorem RepVs.getV : ∀ {ds : List D} {vs : List V} {i : Nat} {v : V}, RepVs K ρ H ds vs → vs[i]? = some v → ∃ d, ds[i]? = some d ∧ RepV K ρ H d v
  | [], _, i, v, h, e => by rw [show _ = _ from h] at e; simp at e
  | x :: xs, vs, 0, d, h, e => by
    obtain ⟨v, r, h1, h2, h3⟩ := h
    rw [h1] at e
    simp at e; subst e
    exact ⟨x, rfl, h2⟩
  | x :: xs, vs, i + 1, d, h, e => by
    obtain ⟨v, r, h1, h2, h3⟩ := h
    rw [h1] at e
    obtain ⟨w, h4, h5⟩ := RepVs.getV (i := i) h3 (by simpa using e)
    exact ⟨w, by simpa using h4, h5⟩
theorem RepVs.append : ∀ {ds es : List D} {vs ws : List V}, RepVs K ρ H ds vs → RepVs K ρ H es ws → RepVs K ρ H (ds ++ es) (vs ++ ws)
  | [], _, _, _, h, h' => by rw [show _ = _ from h]; exact h'
  | x :: xs, es, vs, ws, h, h' => by
    obtain ⟨v, r, h1, h2, h3⟩ := h
    subst h1
    exact ⟨v, r ++ ws, rfl, h2, RepVs.append h3 h'⟩
theorem RepVs.one {d : D} {v : V} (h : RepV K ρ H d v) : RepVs K ρ H [d] [v] := ⟨v, [], rfl, h, rfl⟩
theorem RepVs.take : ∀ (n : Nat) {ds : List D} {vs : List V}, RepVs K ρ H ds vs → RepVs K ρ H (ds.take n) (vs.take n)
  | 0, _, _, _ => rfl
  | n + 1, [], _, h => by rw [show _ = _ from h]; rfl
  | n + 1, x :: xs, vs, h => by
    obtain ⟨v, r, h1, h2, h3⟩ := h
    subst h1
    exact ⟨v, r.take n, rfl, h2, RepVs.take n h3⟩
theorem RepVs.drop : ∀ (n : Nat) {ds : List D} {vs : List V}, RepVs K ρ H ds vs → RepVs K ρ H (ds.drop n) (vs.drop n)
  | 0, _, _, h => h
  | n + 1, [], _, h => by rw [show _ = _ from h]; rfl
  | n + 1, x :: xs, vs, h => by
    obtain ⟨v, r, h1, h2, h3⟩ := h
    subst h1
    exact RepVs.drop n h3
theorem RepVs.set {d : D} {v : V} (k : RepV K ρ H d v) : ∀ (n : Nat) {ds : List D} {vs : List V}, RepVs K ρ H ds vs → RepVs K ρ H (ds.set n d) (vs.set n v)
  | _, [], _, h => by rw [show _ = _ from h]; rfl
  | 0, x :: xs, vs, h => by
    obtain ⟨w, r, h1, h2, h3⟩ := h
    subst h1
    exact ⟨v, r, rfl, k, h3⟩
  | n + 1, x :: xs, vs, h => by
    obtain ⟨w, r, h1, h2, h3⟩ := h
    subst h1
    exact ⟨w, r.set n v, rfl, h2, RepVs.set k n h3⟩
theorem RepVs.rev : ∀ {ds : List D} {vs : List V}, RepVs K ρ H ds vs → RepVs K ρ H ds.reverse vs.reverse
  | [], _, h => by rw [show _ = _ from h]; rfl
  | x :: xs, vs, h => by
    obtain ⟨v, r, h1, h2, h3⟩ := h
    subst h1
    rw [List.reverse_cons, List.reverse_cons]
    exact RepVs.append (RepVs.rev h3) (RepVs.one h2)
theorem RepVs.cut {ds : List D} {vs : List V} (h : RepVs K ρ H ds vs) (lo hi : Option Int) : RepVs K ρ H (cutD ds lo hi) (cutV vs lo hi) := by
  unfold cutD cutV
  rw [h.length]
  exact RepVs.take _ (RepVs.drop _ h)
end

def RepO (K : PySem.W.Frag) (ρ : List Addr) (H : Hp) (a : Addr) : GO → Prop
  | .lst xs => ∃ vs, H a = some (.lst vs) ∧ RepVs K ρ H xs vs
/-- the store stands -/
structure Sto (K : PySem.W.Frag) (ρ : List Addr) (G : GH) (H : Hp) : Prop where
  len : ρ.length = G.length
  nd : ρ.Nodup
  obj : ∀ (i : Nat) (a : Addr) (o : GO), ρ[i]? = some a → G[i]? = some o → RepO K ρ H a o
section
variable {ρ : List Addr} {H : Hp} {G : GH}
theorem Sto.at (S : Sto K ρ G H) {i : Nat} {o : GO} (h : G[i]? = some o) : ∃ a, ρ[i]? = some a ∧ RepO K ρ H a o := by
  have hl : i < ρ.length := by rw [S.len]; exact (List.getElem?_eq_some_iff.mp h).1
  exact ⟨ρ[i], by simp [hl], S.obj i _ o (by simp [hl]) h⟩
theorem Sto.lst (S : Sto K ρ G H) {i : Nat} {xs : List D} (h : G[i]? = some (.lst xs)) : ∃ a vs, ρ[i]? = some a ∧ H a = some (.lst vs) ∧ RepVs K ρ H xs vs := by
  obtain ⟨a, h1, vs, h2, h3⟩ := S.at h
  exact ⟨a, vs, h1, h2, h3⟩
/-- the objects that may be changed: not tuples, not known ones -/
theorem ext_upd {p : Addr} {o : HO} (h : H p = none ∨ ∃ vs, H p = some (.lst vs)) : Ext K ρ H ρ (upd H p o) := by
  refine ⟨⟨[], by simp⟩, fun a xs q => ?_, fun a ob u q => ?_⟩
  · rcases q with (q | ⟨ob, q⟩) | q
    · refine .inl (.inl ((upd_ne fun e => ?_).trans q))
      subst e
      rcases h with h | ⟨vs, h⟩ <;> rw [h] at q <;> cases q
    · refine .inl (.inr ⟨ob, (upd_ne fun e => ?_).trans q⟩)
      subst e
      rcases h with h | ⟨vs, h⟩ <;> rw [h] at q <;> cases q
    · exact .inr q
  · refine (upd_ne fun e => ?_).trans q
    subst e
    rcases h with h | ⟨vs, h⟩ <;> rw [h] at q <;> cases q
theorem ext_grow {p : Addr} {H' : Hp} (e : Ext K ρ H ρ H') : Ext K ρ H (ρ ++ [p]) H' := ⟨⟨[p], rfl⟩, e.tups, e.frzs⟩
theorem Sto.ne (S : Sto K ρ G H) {i : Nat} {a p : Addr} (h : ρ[i]? = some a) (hp : H p = none) : a ≠ p := by
  have hl : i < G.length := by rw [← S.len]; exact (List.getElem?_eq_some_iff.mp h).1
  have q := S.obj i a G[i] h (by simp [hl])
  cases e : G[i] with
  | lst xs =>
    rw [e] at q
    obtain ⟨vs, q, _⟩ := q
    intro z; subst z; rw [hp] at q; cases q
theorem RepO.upd_ne {a p : Addr} {o : HO} {g : GO} {ρ' : List Addr} (hne : a ≠ p) (e : Ext K ρ H ρ' (upd H p o)) (h : RepO K ρ H a g) : RepO K ρ' (upd H p o) a g := by
  cases g with
  | lst xs =>
    obtain ⟨vs, h1, h2⟩ := h
    exact ⟨vs, (L2.upd_ne hne).trans h1, h2.ext e⟩
/-- something new that is no list of the store -/
theorem Sto.other (S : Sto K ρ G H) {p : Addr} {o : HO} (hp : H p = none) : Sto K ρ G (upd H p o) :=
  ⟨S.len, S.nd, fun i a g h1 h2 => (S.obj i a g h1 h2).upd_ne (S.ne h1 hp) (ext_upd (.inl hp))⟩
/-- a new list -/
theorem Sto.new (S : Sto K ρ G H) {p : Addr} {vs : List V} {xs : List D} (hp : H p = none) (r : RepVs K ρ H xs vs) : Sto K (ρ ++ [p]) (G ++ [.lst xs]) (upd H p (.lst vs)) := by
  have e : Ext K ρ H (ρ ++ [p]) (upd H p (.lst vs)) := ext_grow (ext_upd (.inl hp))
  refine ⟨by simp [S.len], ?_, fun i a g h1 h2 => ?_⟩
  · rw [List.nodup_append]
    refine ⟨S.nd, by simp, fun a ha b hb => ?_⟩
    have hb' : b = p := by simpa using hb
    subst hb'
    obtain ⟨i, hi, rfl⟩ := List.mem_iff_getElem.mp ha
    exact S.ne (i := i) (by simp [hi]) hp
  · by_cases hi : i < ρ.length
    · rw [List.getElem?_append_left hi] at h1
      rw [List.getElem?_append_left (by rw [← S.len]; exact hi)] at h2
      exact (S.obj i a g h1 h2).upd_ne (S.ne h1 hp) e
    · have hi' : i = ρ.length := by
        have q := (List.getElem?_eq_some_iff.mp h1).1
        simp at q; omega
      subst hi'
      rw [List.getElem?_append_right (Nat.le_refl _)] at h1
      rw [S.len, List.getElem?_append_right (Nat.le_refl _)] at h2
      simp at h1 h2
      subst h1 h2
      exact ⟨vs, upd_same, r.ext e⟩
/-- a list of the store written -/
theorem Sto.write (S : Sto K ρ G H) {i : Nat} {p : Addr} {vs ws : List V} {xs : List D} (hi : ρ[i]? = some p) (hp : H p = some (.lst vs)) (r : RepVs K ρ H xs ws) : Sto K ρ (G.set i (.lst xs)) (upd H p (.lst ws)) := by
  have e : Ext K ρ H ρ (upd H p (.lst ws)) := ext_upd (.inr ⟨vs, hp⟩)
  refine ⟨by simp [S.len], S.nd, fun j a g h1 h2 => ?_⟩
  by_cases hj : j = i
  · subst hj
    rw [hi] at h1; cases h1
    have hl : j < G.length := by rw [← S.len]; exact (List.getElem?_eq_some_iff.mp hi).1
    rw [List.getElem?_set_self hl] at h2; cases h2
    exact ⟨ws, upd_same, r.ext e⟩
  · rw [List.getElem?_set_ne (Ne.symm hj)] at h2
    refine (S.obj j a g h1 h2).upd_ne (fun z => hj ?_) e
    subst z
    have l1 := (List.getElem?_eq_some_iff.mp h1)
    have l2 := (List.getElem?_eq_some_iff.mp hi)
    obtain ⟨b1, c1⟩ := l1
    obtain ⟨b2, c2⟩ := l2
    exact (List.getElem_inj S.nd).mp (c1.trans c2.symm)
end

/-! ### what is wanted behind a step -/
def Post {α : Type} (m : M α) (G : GH) (ok : α → GH → Prop) (ex : Str → Option D → GH → Prop) : Prop :=
  match m G with
  | .ok a G' => ok a G'
  | .exn c f G' => ex c f G'
  | .bad => False
theorem Post.bind {α β : Type} {m : M α} {f : α → M β} {G : GH} {ok : β → GH → Prop} {ex : Str → Option D → GH → Prop} (h : Post (m >>= f) G ok ex) : Post m G (fun a G1 => Post (f a) G1 ok ex) ex := by
  show Post m G _ ex
  have h : Post (mbind m f) G ok ex := h
  unfold Post mbind at h
  unfold Post
  cases e : m G with
  | ok a G1 => rw [e] at h; exact h
  | exn c v G1 => rw [e] at h; exact h
  | bad => rw [e] at h; exact h
theorem Post.mono {α : Type} {m : M α} {G : GH} {ok ok' : α → GH → Prop} {ex ex' : Str → Option D → GH → Prop} (h : Post m G ok ex) (h1 : ∀ a G1, ok a G1 → ok' a G1) (h2 : ∀ c f G1, ex c f G1 → ex' c f G1) : Post m G ok' ex' := by
  unfold Post at h ⊢
  cases e : m G with
  | ok a G1 => rw [e] at h; exact h1 _ _ h
  | exn c v G1 => rw [e] at h; exact h2 _ _ _ h
  | bad => rw [e] at h; exact h
theorem Post.mret {α : Type} {a : α} {G : GH} {ok : α → GH → Prop} {ex : Str → Option D → GH → Prop} (h : Post (mret a) G ok ex) : ok a G := h
theorem Post.mbad {α : Type} {G : GH} {ok : α → GH → Prop} {ex : Str → Option D → GH → Prop} (h : Post (mbad : M α) G ok ex) : False := h
/-- nothing is raised -/
def NoX {α : Type} (m : M α) : Prop := ∀ G c f G', m G ≠ .exn c f G'
theorem NoX.mret {α : Type} (a : α) : NoX (mret a) := fun _ _ _ _ h => nomatch h
theorem NoX.mbad {α : Type} : NoX (mbad : M α) := fun _ _ _ _ h => nomatch h
theorem NoX.bind {α β : Type} {m : M α} {f : α → M β} (h : NoX m) (k : ∀ a, NoX (f a)) : NoX (m >>= f) := fun G c v G' e => by
  have e : mbind m f G = .exn c v G' := e
  unfold mbind at e
  cases q : m G with
  | ok a G1 => rw [q] at e; exact k a G1 c v G' e
  | exn c1 v1 G1 => exact h G c1 v1 G1 q
  | bad => rw [q] at e; cases e
theorem NoX.ite {α : Type} {c : Prop} [Decidable c] {m m' : M α} (h : NoX m) (h' : NoX m') : NoX (if c then m else m') := by
  split
  · exact h
  · exact h'
theorem Post.nox {α : Type} {m : M α} {G : GH} {ok : α → GH → Prop} {ex ex' : Str → Option D → GH → Prop} (n : NoX m) (h : Post m G ok ex) : Post m G ok ex' := by
  unfold Post at h ⊢
  cases e : m G with
  | ok a G1 => rw [e] at h; exact h
  | exn c v G1 => exact absurd e (n G c v G1)
  | bad => rw [e] at h; exact h
abbrev noex : Str → Option D → GH → Prop := fun _ _ _ => False
/-- a value handed on -/
abbrev Want (K : PySem.W.Frag) (ρ : List Addr) (H : Hp) (Q : VK) (d : D) (G' : GH) : Prop := ∀ v H' ρ', Sto K ρ' G' H' → Ext K ρ H ρ' H' → RepV K ρ' H' d v → Q v H'
/-- an operation on values -/
def rD2 (K : PySem.W.Frag) (f : D → D → M D) : R2 := fun x y H Q => ∃ ρ G a b, Sto K ρ G H ∧ RepV K ρ H a x ∧ RepV K ρ H b y ∧ Post (f a b) G (Want K ρ H Q) noex
def rDs (K : PySem.W.Frag) (f : List D → M D) : List V → Hp → VK → Prop := fun xs H Q => ∃ ρ G as, Sto K ρ G H ∧ RepVs K ρ H as xs ∧ Post (f as) G (Want K ρ H Q) noex
theorem OpR.imp {X : Cx} {f : Value → Value → Sem Value} {r r' : R2} (h : OpR X f r) (k : ∀ x y H Q, r' x y H Q → r x y H Q) : OpR X f r' := fun pins s σ H x y v u Q I rx ry q => h pins s σ H x y v u Q I rx ry (k x y H Q q)

/-! a seq's reading -/
theorem getL_of {ρ : List Addr} {H : Hp} {G : GH} {d : D} {v : V} {ok : List D → GH → Prop} {ex : Str → Option D → GH → Prop} (S : Sto K ρ G H) (r : RepV K ρ H d v) (h : Post (getL d) G ok ex) :
    ∃ a vs xs, v = .ref a ∧ SqL K H a vs ∧ RepVs K ρ H xs vs ∧ ok xs G := by
  cases d with
  | frz xs =>
    obtain ⟨a, vs, h1, h2, h3⟩ := r
    exact ⟨a, vs, xs, h1, h2.l, h3, h⟩
  | loc i =>
    obtain ⟨a, h1, h2⟩ := r
    unfold Post getL at h
    simp only at h
    cases e : G[i]? with
    | none => rw [e] at h; exact h.elim
    | some o =>
      cases o with
      | lst xs =>
        rw [e] at h
        obtain ⟨a', vs, h3, h4, h5⟩ := S.lst e
        rw [h2] at h3; cases h3
        exact ⟨a, vs, xs, h1, SqL.of h4, h5, h⟩
  | _ => exact h.elim
theorem getS_of {ρ : List Addr} {H : Hp} {G : GH} {d : D} {v : V} {ok : List D → GH → Prop} {ex : Str → Option D → GH → Prop} (S : Sto K ρ G H) (r : RepV K ρ H d v) (h : Post (getS d) G ok ex) :
    ∃ a vs xs, v = .ref a ∧ (SqL K H a vs ∨ SqT K H a vs) ∧ RepVs K ρ H xs vs ∧ ok xs G := by
  cases d with
  | tup xs =>
    obtain ⟨a, vs, h1, h2, h3⟩ := r
    exact ⟨a, vs, xs, h1, .inr h2, h3, h⟩
  | frz xs =>
    obtain ⟨a, vs, xs, h1, h2, h3, h4⟩ := getL_of S r (show Post (getL (.frz xs)) G ok ex from h)
    exact ⟨a, vs, xs, h1, .inl h2, h3, h4⟩
  | loc i =>
    obtain ⟨a, vs, xs, h1, h2, h3, h4⟩ := getL_of S r (show Post (getL (.loc i)) G ok ex from h)
    exact ⟨a, vs, xs, h1, .inl h2, h3, h4⟩
  | _ => exact h.elim
/-- a new list handed on -/
theorem newL_of {ρ : List Addr} {H : Hp} {G : GH} {xs : List D} {vs : List V} {Q : VK} {ex : Str → Option D → GH → Prop} (S : Sto K ρ G H) (r : RepVs K ρ H xs vs) (h : Post (newL xs) G (Want K ρ H Q) ex) :
    vs.length ≤ sizeLine ∧ ∀ p, H p = none → Q (.ref p) (upd H p (.lst vs)) := by
  unfold Post newL at h
  by_cases hz : xs.length ≤ sizeLine
  · simp only [if_pos hz] at h
    refine ⟨by rw [r.length]; exact hz, fun p hp => ?_⟩
    refine h _ _ _ (S.new hp r) (ext_grow (ext_upd (.inl hp))) ⟨p, rfl, ?_⟩
    rw [← S.len, List.getElem?_append_right (Nat.le_refl _)]; simp
  · simp only [if_neg hz] at h

theorem mkT_of {ρ : List Addr} {H : Hp} {G : GH} {xs : List D} {Q : VK} {ex : Str → Option D → GH → Prop} (h : Post (mkT xs) G (Want K ρ H Q) ex) :
    xs.length ≤ sizeLine ∧ Want K ρ H Q (.tup xs) G := by
  unfold mkT at h
  by_cases hz : xs.length ≤ sizeLine
  · rw [if_pos hz] at h
    exact ⟨hz, h.mret⟩
  · rw [if_neg hz] at h
    exact h.mbad.elim
theorem Want.tup {ρ : List Addr} {H : Hp} {G : GH} {xs : List D} {vs : List V} {Q : VK} (S : Sto K ρ G H) (r : RepVs K ρ H xs vs) (h : Want K ρ H Q (.tup xs) G) : ∀ p, H p = none → Q (.ref p) (upd H p (.tup vs)) := fun p hp => by
  have e : Ext K ρ H ρ (upd H p (.tup vs)) := ext_upd (.inl hp)
  exact h _ _ _ (S.other hp) e ⟨p, vs, rfl, .inl (.inl upd_same), r.ext e⟩
section
variable {ρ : List Addr} {H : Hp} {G : GH}
theorem Want.self {Q : VK} {d : D} {v : V} (S : Sto K ρ G H) (r : RepV K ρ H d v) (h : Want K ρ H Q d G) : Q v H := h v H ρ S Ext.refl r
theorem Want.int {Q : VK} {n : Int} (h : Want K ρ H Q (.int n) G) (S : Sto K ρ G H) : Q (.int n) H := h _ H ρ S Ext.refl rfl
theorem Want.bl {Q : VK} {n : Bool} (h : Want K ρ H Q (.bl n) G) (S : Sto K ρ G H) : Q (.bl n) H := h _ H ρ S Ext.refl rfl
theorem repI {v : V} {i : Int} (r : RepV K ρ H (.int i) v) : v = .int i := r
theorem repB {v : V} {i : Bool} (r : RepV K ρ H (.bl i) v) : v = .bl i := r
theorem repN {v : V} (r : RepV K ρ H .non v) : v = .non := r
theorem repS {v : V} {i : Str} (r : RepV K ρ H (.str i) v) : v = .str i := r
theorem repT {v : V} {xs : List D} (r : RepV K ρ H (.tup xs) v) : ∃ a vs, v = .ref a ∧ SqT K H a vs ∧ RepVs K ρ H xs vs := r
theorem repF {v : V} {xs : List D} (r : RepV K ρ H (.frz xs) v) : ∃ a vs, v = .ref a ∧ SqF K H a vs ∧ RepVs K ρ H xs vs := r
theorem repL {v : V} {i : Nat} (r : RepV K ρ H (.loc i) v) : ∃ a, v = .ref a ∧ ρ[i]? = some a := r
theorem repL2 (S : Sto K ρ G H) {v : V} {i : Nat} {xs : List D} (r : RepV K ρ H (.loc i) v) (e : G[i]? = some (.lst xs)) : ∃ a vs, v = .ref a ∧ ρ[i]? = some a ∧ H a = some (.lst vs) ∧ RepVs K ρ H xs vs := by
  obtain ⟨a, h1, h2⟩ := r
  obtain ⟨a', vs, h3, h4, h5⟩ := S.lst e
  rw [h2] at h3; cases h3
  exact ⟨a, vs, h1, h2, h4, h5⟩
end
theorem cutV_length_eq {xs : List D} {vs : List V} {lo hi : Option Int} {ρ : List Addr} {H : Hp} (r : RepVs K ρ H xs vs) : (cutV vs lo hi).length = (cutD xs lo hi).length := (r.cut lo hi).length
theorem log_of {n : Nat} {i : Int} (h0 : 0 < n) (h : i.natAbs < 2 ^ n) : i.natAbs.log2 < n := PySem.Flt.log2_lt_of h0 h
theorem mul_aux (n : Nat) {i j : Int} (h0 : 0 < n) (h : n + n + 2 ≤ 134217728) (h1 : i.natAbs < 2 ^ n) (h2 : j.natAbs < 2 ^ n) : IntMulOk i j := by
  have b : ∀ x : Int, Builtin.Int.intBits x ≤ x.natAbs.log2 + 1 := fun x => by
    unfold Builtin.Int.intBits
    split <;> omega
  have x1 := log_of h0 h1
  have x2 := log_of h0 h2
  have h1 := b i
  have h2 := b j
  have e : bitsLine = 134217728 := by decide
  unfold IntMulOk
  intro z
  rw [Bool.and_eq_true] at z
  have z2 := z.2
  unfold Builtin.Int.intTooBig at z2
  have z3 := of_decide_eq_true z2
  rw [e] at z3
  omega
theorem op_mulI {X : Cx} : OpR X (binaryOp .Mult) (rI IntMulOk fun i j => .int (i * j)) := opI fun _ _ _ _ _ _ _ hc q => mul_int q hc
theorem div_aux (n : Nat) {i j : Int} (h0 : 0 < n) (h : n ≤ 9000) (h1 : 0 < j) (h2 : j.natAbs < 2 ^ n) : CDivW i j := wide_div h1 h2 h0 h
theorem fits_mul {i j : Int} (h1 : fits i) (h2 : fits j) : IntMulOk i j := by
  unfold fits at h1 h2
  exact mul_aux bigBits (by decide) (by decide) h1 h2
theorem small_bits {i : Int} (h : i.natAbs < 2 ^ 63) : Builtin.Int.intBits i ≤ 64 := by
  have b : ∀ x : Int, Builtin.Int.intBits x ≤ x.natAbs.log2 + 1 := fun x => by
    unfold Builtin.Int.intBits
    split <;> omega
  have := log_of (n := 63) (by decide) h
  have := b i
  omega
theorem mulOk_ok {i j : Int} (h : mulOk i j) : IntMulOk i j := by
  rcases h with h | h | ⟨h1, h2⟩
  · exact IntMulOk.of_left (small_bits h)
  · exact IntMulOk.of_right (small_bits h)
  · exact fits_mul h1 h2
theorem fits_div {i j : Int} (h1 : 0 < j) (h2 : fitsD j) : CDivW i j := by
  unfold fitsD at h2
  exact div_aux divBits (by decide) (by decide) h1 h2
abbrev opOf : Op2 → Operator
  | .add => .Add | .sub => .Sub | .mul => .Mult | .fdiv => .FloorDiv | .mod => .Mod | .pow => .Pow
theorem if_post {α : Type} {c : Prop} [Decidable c] {m : M α} {G : GH} {ok : α → GH → Prop} {ex : Str → Option D → GH → Prop} (h : Post (if c then m else mbad) G ok ex) : c ∧ Post m G ok ex := by
  by_cases hc : c
  · rw [if_pos hc] at h; exact ⟨hc, h⟩
  · rw [if_neg hc] at h; exact h.mbad.elim
/-! a tuple some times -/
theorem tm_same (l : Addr) (its : Array Value) (n : Nat) (dd : Option Addr) (sl : Array (Option Value)) (x : Int) (u : Tok) (c0 : (decide (x < -(2 ^ 63)) || decide (x ≥ 2 ^ 63)) = false) (c1 : (its.isEmpty || x == 1) = true) :
    Meets (Builtin.«tuple.__mul__» ⟨[.ref l, .int x u], []⟩) (fun _ R s => s.heap.get? l = some { cls := .type "tuple", dict := dd, data := .seq its n, slots := sl } ∧ R (.ok (.ret (Value.ref l))) s) :=
  .of_wp fun prog w A R s h => by
    obtain ⟨hp, g, d, tk, os⟩ := s
    obtain ⟨hl, h⟩ := h
    have f1 := AutoSeq1.idx_int
    wp_walk using wpAny_loadPart' hl
    repeat (first
      | (refine wpAny_ite_false (decide_eq_false (by rw [c0]; exact Bool.false_ne_true)) ?_; wp_walk using wpAny_loadPart' hl)
      | (refine wpAny_ite_true (decide_eq_true c1) ?_; wp_walk using wpAny_loadPart' hl))
    exact ⟨_, rfl, h⟩
theorem tm_none (l : Addr) (its : Array Value) (n : Nat) (dd : Option Addr) (sl : Array (Option Value)) (x : Int) (u : Tok) (c0 : (decide (x < -(2 ^ 63)) || decide (x ≥ 2 ^ 63)) = false) (c1 : (its.isEmpty || x == 1) = false) (c2 : (decide (x ≤ 0) || its.isEmpty) = true) :
    Meets (Builtin.«tuple.__mul__» ⟨[.ref l, .int x u], []⟩) (fun _ R s => s.heap.get? l = some { cls := .type "tuple", dict := dd, data := .seq its n, slots := sl } ∧
      R (.ok (.ret (Value.ref s.heap.objs.size))) { s with heap := s.heap.push { cls := Value.type "tuple", data := Data.seq #[] }, toks := s.toks }) :=
  .of_wp fun prog w A R s h => by
    obtain ⟨hp, g, d, tk, os⟩ := s
    obtain ⟨hl, h⟩ := h
    have f1 := AutoSeq1.idx_int
    wp_walk using wpAny_loadPart' hl
    repeat (first
      | (refine wpAny_ite_false (decide_eq_false (by rw [c0]; exact Bool.false_ne_true)) ?_; wp_walk using wpAny_loadPart' hl)
      | (refine wpAny_ite_false (decide_eq_false (by rw [c1]; exact Bool.false_ne_true)) ?_; wp_walk using wpAny_loadPart' hl)
      | (refine wpAny_ite_true (decide_eq_true c2) ?_; wp_walk using wpAny_loadPart' hl))
    exact ⟨_, rfl, h⟩
def rRepU (K : PySem.W.Frag) : R2 := fun x y H Q => ∃ l k xs, x = .ref l ∧ y = .int k ∧ SqT K H l xs ∧ xs.length ≤ 1000 ∧ 0 ≤ k ∧ k ≤ 1000 ∧ ((xs = [] ∨ k = 1) → Q (.ref l) H) ∧
  (xs ≠ [] → k ≠ 1 → ∀ p, H p = none → Q (.ref p) (upd H p (.tup (List.replicate k.toNat xs).flatten)))
theorem op_repU {X : Cx} : OpR X (binaryOp .Mult) (rRepU X.K) := by
  intro pins s σ H x y v u Q I rx ry h
  obtain ⟨l, k, xs, rfl, rfl, hT, hz, h1, h2, q1, q2⟩ := h
  by_cases hbig : xs ≠ [] ∧ 2 ≤ k
  · exact op_repT pins s σ H _ _ v u Q I rx ry ⟨l, k, xs, rfl, rfl, hT, hbig.1, hbig.2, h2, hz, q2 hbig.1 (by omega)⟩
  · cases rx
    obtain ⟨t, rfl⟩ := ry
    obtain ⟨its, r, ⟨⟨cls, dd, data, sl⟩, ho, hc, n, hd⟩, hs⟩ := I.tuple hT
    simp only at hc hd
    subst hc hd
    have hle : its.length = xs.length := r.length.symm
    have c0 : (decide (k < -(2 ^ 63)) || decide (k ≥ 2 ^ 63)) = false := by
      rw [decide_eq_false (by omega), decide_eq_false (by omega)] <;> rfl
    by_cases hone : xs = [] ∨ k = 1
    · have c1 : (its.toArray.isEmpty || k == 1) = true := by
        rcases hone with e | e
        · subst e
          have : its = [] := List.eq_nil_of_length_eq_zero (by simpa using hle)
          subst this; rfl
        · subst e; simp
      exact wpAny_binaryOp_repeat_ref (T := "tuple") (U := "int") (by decide) ⟨_, ho, rfl⟩ (fun s' => typeIs_int s' k t) noFill_tuple_mul PySem.F.fills_int_mul PySem.F.slot_int_rmul repeat_tuple PySem.F.slot_int_index.lookup
        (call_meets PySem.F.slot_int_rmul (typeIs_int s k t) PySem.F.entry_int_rmul (PySem.F.args_int_rmul_2 _ _) (int_rmul_tuple k t l its.toArray n dd sl)
          ⟨ho, rfl, ⟨_, ho, rfl⟩, call_meets PySem.F.slot_tuple_mul ⟨_, ho, rfl⟩ PySem.F.entry_tuple_mul (PySem.F.args_tuple_mul_2 _ _) (tm_same l its.toArray n dd sl k t c0 c1) ⟨ho, ⟨.ref l, H, I, rfl, q1 hone⟩⟩⟩)
    · have hne : xs ≠ [] := fun e => hone (.inl e)
      have hk0 : k = 0 := by
        have a1 : ¬ 2 ≤ k := fun z => hbig ⟨hne, z⟩
        have a2 : k ≠ 1 := fun z => hone (.inr z)
        omega
      subst hk0
      have hn : its ≠ [] := fun e => hne (by
        rw [e] at hle
        exact List.eq_nil_of_length_eq_zero hle.symm)
      have hi : its.toArray.isEmpty = false := by
        cases its with
        | nil => exact absurd rfl hn
        | cons a b => rfl
      have c1 : (its.toArray.isEmpty || (0 : Int) == 1) = false := by rw [hi] <;> rfl
      have c2 : (decide ((0 : Int) ≤ 0) || its.toArray.isEmpty) = true := by rw [hi] <;> rfl
      refine wpAny_binaryOp_repeat_ref (T := "tuple") (U := "int") (by decide) ⟨_, ho, rfl⟩ (fun s' => typeIs_int s' 0 t) noFill_tuple_mul PySem.F.fills_int_mul PySem.F.slot_int_rmul repeat_tuple PySem.F.slot_int_index.lookup
        (call_meets PySem.F.slot_int_rmul (typeIs_int s 0 t) PySem.F.entry_int_rmul (PySem.F.args_int_rmul_2 _ _) (int_rmul_tuple 0 t l its.toArray n dd sl)
          ⟨ho, rfl, ⟨_, ho, rfl⟩, call_meets PySem.F.slot_tuple_mul ⟨_, ho, rfl⟩ PySem.F.entry_tuple_mul (PySem.F.args_tuple_mul_2 _ _) (tm_none l its.toArray n dd sl 0 t c0 c1 c2) ⟨ho, ?_⟩⟩)
      refine ⟨.ref s.heap.objs.size, _, I.laid (t' := s.toks) (o := .tup []) (fun b ob z => Heap.get?_push_of_some _ z) (Nat.le_refl _) ?_, rfl, q2 hne (by omega) _ (I.hok.fresh (Nat.le_refl _))⟩
      exact ⟨Nat.zero_le _, [], .nil, IsTup.new _ _⟩
theorem repVs_rep {K : PySem.W.Frag} {ρ : List Addr} {H : Hp} {xs : List D} {vs : List V} (r : RepVs K ρ H xs vs) : ∀ n : Nat, RepVs K ρ H (List.replicate n xs).flatten (List.replicate n vs).flatten
  | 0 => rfl
  | n + 1 => by
    rw [List.replicate_succ, List.replicate_succ, List.flatten_cons, List.flatten_cons]
    exact r.append (repVs_rep r n)
theorem flatten_nil {α : Type} : ∀ n : Nat, (List.replicate n ([] : List α)).flatten = []
  | 0 => rfl
  | n + 1 => by rw [List.replicate_succ, List.flatten_cons, flatten_nil n]; rfl
theorem op_D {X : Cx} (o : Op2) : OpR X (binaryOp (opOf o)) (rD2 X.K (opD o)) := by
  intro pins s σ H x y v u Q I rx ry h
  obtain ⟨ρ, G, a, b, S, ra, rb, h⟩ := h
  cases a with
  | int i =>
    cases b with
    | int j =>
      cases repI ra; cases repI rb
      cases o with
      | add => exact op_add pins s σ H _ _ v u Q I rx ry ⟨i, j, rfl, rfl, h.mret.int S⟩
      | sub => exact op_sub pins s σ H _ _ v u Q I rx ry ⟨i, j, rfl, rfl, h.mret.int S⟩
      | mul =>
        obtain ⟨c1, h⟩ := if_post (c := mulOk i j) h
        exact op_mulI pins s σ H _ _ v u Q I rx ry ⟨i, j, rfl, rfl, mulOk_ok c1, h.mret.int S⟩
      | fdiv =>
        obtain ⟨⟨c1, c2⟩, h⟩ := if_post (c := 0 < j ∧ fitsD j) h
        exact op_fdivW pins s σ H _ _ v u Q I rx ry ⟨i, j, rfl, rfl, fits_div c1 c2, h.mret.int S⟩
      | mod =>
        obtain ⟨c1, h⟩ := if_post (c := 0 < j) h
        exact op_mod pins s σ H _ _ v u Q I rx ry ⟨i, j, rfl, rfl, c1, h.mret.int S⟩
      | pow =>
        obtain ⟨c1, h⟩ := if_post (c := fitsP i j) h
        exact op_pow pins s σ H _ _ v u Q I rx ry ⟨i, j, rfl, rfl, c1, h.mret.int S⟩
    | _ => cases o <;> exact h.elim
  | tup xs =>
    cases b with
    | tup ys =>
      cases o with
      | add =>
        obtain ⟨a1, vs, rfl, h2, h3⟩ := repT ra
        obtain ⟨a2, ws, rfl, h5, h6⟩ := repT rb
        obtain ⟨hz, hp⟩ := mkT_of h
        have hz' : vs.length + ws.length ≤ sizeLine := by rw [h3.length, h6.length]; simpa using hz
        refine op_catA pins s σ H _ _ v u Q I rx ry ⟨a1, a2, vs, ws, rfl, rfl, h2, h5, hz', fun e => ?_, fun _ e => ?_, fun _ _ => hp.tup S (h3.append h6)⟩
        · subst e
          exact hp.self (d := .tup (xs ++ ys)) S (show RepV X.K ρ H (.tup (xs ++ ys)) _ from ⟨a2, ws, rfl, h5, by simpa using h3.append h6⟩)
        · subst e
          exact hp.self (d := .tup (xs ++ ys)) S (show RepV X.K ρ H (.tup (xs ++ ys)) _ from ⟨a1, vs, rfl, h2, by simpa using h3.append h6⟩)
      | _ => exact h.elim
    | int j =>
      cases o with
      | mul =>
        obtain ⟨a1, vs, rfl, h2, h3⟩ := repT ra
        cases repI rb
        obtain ⟨⟨c1, c2, c3⟩, h⟩ := if_post (c := xs.length ≤ 1000 ∧ 0 ≤ j ∧ j ≤ 1000) h
        have h : Want X.K ρ H Q (.tup (List.replicate j.toNat xs).flatten) G := h
        refine op_repU pins s σ H _ _ v u Q I rx ry ⟨a1, j, vs, rfl, rfl, h2, by rw [h3.length]; exact c1, c2, c3, fun e => ?_, fun _ _ => h.tup S (repVs_rep h3 _)⟩
        refine h.self (d := .tup (List.replicate j.toNat xs).flatten) S (show RepV X.K ρ H (.tup (List.replicate j.toNat xs).flatten) _ from ⟨a1, vs, rfl, h2, ?_⟩)
        rcases e with e | e
        · subst e
          have : xs = [] := List.eq_nil_of_length_eq_zero (by have := h3.length; simpa using this.symm)
          subst this
          rw [flatten_nil]; exact h3
        · subst e
          simpa using h3
      | _ => exact h.elim
    | _ => cases o <;> exact h.elim
  | loc i =>
    cases b with
    | int j =>
      cases o with
      | mul =>
        have h : Post (fun G => (match G[i]? with
          | some (.lst xs) => if 0 ≤ j ∧ j ≤ 1000000 ∧ xs.length * j.toNat ≤ sizeLine then newL (List.replicate j.toNat xs).flatten G else R.bad
          | none => R.bad : R D)) G (Want X.K ρ H Q) noex := h
        unfold Post at h
        cases e1 : G[i]? with
        | none => simp only [e1] at h
        | some o1 =>
          obtain ⟨xs⟩ := o1
          simp only [e1] at h
          by_cases hc : 0 ≤ j ∧ j ≤ 1000000 ∧ xs.length * j.toNat ≤ sizeLine
          · rw [if_pos hc] at h
            obtain ⟨a1, vs, rfl, h2, h3, h4⟩ := repL2 S ra e1
            cases repI rb
            obtain ⟨hz, hp⟩ := newL_of (ex := noex) S (repVs_rep h4 j.toNat) (show Post (newL (List.replicate j.toNat xs).flatten) G (Want X.K ρ H Q) noex from h)
            exact op_rep pins s σ H _ _ v u Q I rx ry ⟨a1, j, vs, rfl, rfl, h3, by omega, by omega, by rw [h4.length]; exact hc.2.2, hp⟩
          · rw [if_neg hc] at h; exact h.elim
      | _ => exact h.elim
    | loc j =>
      cases o with
      | add =>
        have h : Post (fun G => (match G[i]?, G[j]? with
          | some (.lst xs), some (.lst ys) => newL (xs ++ ys) G
          | _, _ => R.bad : R D)) G (Want X.K ρ H Q) noex := h
        unfold Post at h
        cases e1 : G[i]? with
        | none => simp only [e1] at h
        | some o1 =>
          cases e2 : G[j]? with
          | none => simp only [e1, e2] at h
          | some o2 =>
            obtain ⟨xs⟩ := o1
            obtain ⟨ys⟩ := o2
            simp only [e1, e2] at h
            obtain ⟨a1, vs, rfl, h2, h3, h4⟩ := repL2 S ra e1
            obtain ⟨a2, ws, rfl, h6, h7, h8⟩ := repL2 S rb e2
            obtain ⟨hz, hp⟩ := newL_of (ex := noex) S (h4.append h8) (show Post (newL (xs ++ ys)) G (Want X.K ρ H Q) noex from h)
            exact op_cat pins s σ H _ _ v u Q I rx ry ⟨a1, a2, vs, ws, rfl, rfl, h3, h7, by simpa using hz, hp⟩
      | _ => exact h.elim
    | _ => cases o <;> exact h.elim
  | _ => cases b <;> cases o <;> exact h.elim
end OC

namespace OC
open PySem PySem.Spec PyProof.Rows L2
variable {K : PySem.W.Frag} {mg : Str → Option Value}

mutual
def py : D → PyData
  | .non => .none
  | .bl b => .bool b
  | .int i => .int i
  | .str s => .str s
  | .tup xs => .tuple (pys xs)
  | .frz _ | .loc _ => .none
def pys : List D → List PyData
  | [] => []
  | x :: xs => py x :: pys xs
end
mutual
theorem py_plain : ∀ d : D, (py d).plain = true
  | .non | .bl _ | .int _ | .str _ | .frz _ | .loc _ => by simp [py, PyData.plain]
  | .tup xs => by simp only [py, PyData.plain]; exact pys_plain xs
theorem pys_plain : ∀ ds : List D, PyData.plainAll (pys ds) = true
  | [] => by simp [pys, PyData.plainAll]
  | x :: xs => by simp only [pys, PyData.plainAll, Bool.and_eq_true]; exact ⟨py_plain x, pys_plain xs⟩
end
mutual
theorem py_dep : ∀ d : D, (py d).depth = dep d
  | .non | .bl _ | .int _ | .str _ | .frz _ | .loc _ => by simp [py, PyData.depth, dep]
  | .tup xs => by simp only [py, PyData.depth, dep]; rw [pys_dep xs]
theorem pys_dep : ∀ ds : List D, PyData.depthAll (pys ds) = deps ds
  | [] => by simp [pys, PyData.depthAll, deps]
  | x :: xs => by simp only [pys, PyData.depthAll, deps]; rw [py_dep x, pys_dep xs]
end
mutual
theorem py_eqv : ∀ (a b : D), pureD a = true → pureD b = true → PyData.eqv (py a) (py b) = eqv a b
  | .non, b, _, hb => by cases b <;> simp [py, PyData.eqv, eqv, pureD] at hb ⊢
  | .bl _, b, _, hb => by cases b <;> simp [py, PyData.eqv, eqv, pureD] at hb ⊢
  | .int _, b, _, hb => by cases b <;> simp [py, PyData.eqv, eqv, pureD] at hb ⊢
  | .str _, b, _, hb => by cases b <;> simp [py, PyData.eqv, eqv, pureD] at hb ⊢
  | .frz _, b, ha, _ => by simp [pureD] at ha
  | .loc _, b, ha, _ => by simp [pureD] at ha
  | .tup xs, b, ha, hb => by
    cases b with
    | tup ys =>
      simp only [py, PyData.eqv, eqv]
      exact pys_eqv xs ys (by simpa [pureD] using ha) (by simpa [pureD] using hb)
    | _ => simp [py, PyData.eqv, eqv, pureD] at hb ⊢
theorem pys_eqv : ∀ (a b : List D), pureDs a = true → pureDs b = true → PyData.eqvAll (pys a) (pys b) = eqvs a b
  | [], b, _, _ => by cases b <;> simp [pys, PyData.eqvAll, eqvs]
  | x :: xs, b, ha, hb => by
    cases b with
    | nil => simp [pys, PyData.eqvAll, eqvs]
    | cons y ys =>
      simp only [pureDs, Bool.and_eq_true] at ha hb
      simp only [pys, PyData.eqvAll, eqvs]
      rw [py_eqv x y ha.1 hb.1, pys_eqv xs ys ha.2 hb.2]
end
theorem mapO_some {α β : Type} {f : α → Option β} : ∀ {xs : List α} {ys : List β}, mapO f xs = some ys → xs.length = ys.length ∧ ∀ (i : Nat) (x : α), xs[i]? = some x → ∃ y, ys[i]? = some y ∧ f x = some y
  | [], ys, h => by
    have h : some [] = some ys := h
    cases h
    exact ⟨rfl, fun i x e => by simp at e⟩
  | x :: xs, ys, h => by
    unfold mapO at h
    cases e1 : f x with
    | none => rw [e1] at h; simp at h
    | some y =>
      cases e2 : mapO f xs with
      | none => rw [e1, e2] at h; simp at h
      | some zs =>
        rw [e1, e2] at h
        have h : some (y :: zs) = some ys := h
        cases h
        obtain ⟨h1, h2⟩ := mapO_some e2
        refine ⟨by simp [h1], fun i z e => ?_⟩
        cases i with
        | zero => simp at e; subst e; exact ⟨y, rfl, e1⟩
        | succ i => simpa using h2 i z (by simpa using e)
theorem mapO_cons {α β : Type} {f : α → Option β} {x : α} {xs : List α} {ys : List β} (h : mapO f (x :: xs) = some ys) : ∃ y zs, f x = some y ∧ mapO f xs = some zs ∧ ys = y :: zs := by
  unfold mapO at h
  cases e1 : f x with
  | none => rw [e1] at h; simp at h
  | some y =>
    cases e2 : mapO f xs with
    | none => rw [e1, e2] at h; simp at h
    | some zs =>
      rw [e1, e2] at h
      have h : some (y :: zs) = some ys := h
      cases h
      exact ⟨y, zs, rfl, rfl, rfl⟩
theorem plain_of_all {f : D → Option PyData} (hf : ∀ d p, f d = some p → p.plain = true) : ∀ {xs : List D} {ps : List PyData}, mapO f xs = some ps → PyData.plainAll ps = true
  | [], ps, h => by
    have h : some [] = some ps := h
    cases h; rfl
  | x :: xs, ps, h => by
    obtain ⟨y, zs, h1, h2, rfl⟩ := mapO_cons h
    simp only [PyData.plainAll, Bool.and_eq_true]
    exact ⟨hf x y h1, plain_of_all hf h2⟩
theorem depth_of_all {n : Nat} {f : D → Option PyData} (hf : ∀ d p, f d = some p → p.depth ≤ n) : ∀ {xs : List D} {ps : List PyData}, mapO f xs = some ps → PyData.depthAll ps ≤ n
  | [], ps, h => by
    have h : some [] = some ps := h
    cases h; simp [PyData.depthAll]
  | x :: xs, ps, h => by
    obtain ⟨y, zs, h1, h2, rfl⟩ := mapO_cons h
    have a := hf x y h1
    have b := depth_of_all hf h2
    simp only [PyData.depthAll]
    omega
theorem rs_fact {G : GH} : ∀ (n : Nat) (d : D) (p : PyData), rs G n d = some p → p.plain = true ∧ p.depth ≤ n
  | 0, d, p, h => by cases d <;> cases h
  | n + 1, .non, p, h => by cases (show some PyData.none = some p from h); exact ⟨rfl, by simp [PyData.depth]⟩
  | n + 1, .bl b, p, h => by cases (show some (PyData.bool b) = some p from h); exact ⟨rfl, by simp [PyData.depth]⟩
  | n + 1, .int b, p, h => by cases (show some (PyData.int b) = some p from h); exact ⟨rfl, by simp [PyData.depth]⟩
  | n + 1, .str b, p, h => by cases (show some (PyData.str b) = some p from h); exact ⟨rfl, by simp [PyData.depth]⟩
  | n + 1, .tup xs, p, h => by
    obtain ⟨ps, e, rfl⟩ := Option.map_eq_some_iff.mp (show (mapO (rs G n) xs).map PyData.tuple = some p from h)
    refine ⟨by simp only [PyData.plain]; exact plain_of_all (fun d p q => (rs_fact n d p q).1) e, ?_⟩
    simp only [PyData.depth]
    have := depth_of_all (fun d p q => (rs_fact n d p q).2) e
    omega
  | n + 1, .frz xs, p, h => by
    obtain ⟨ps, e, rfl⟩ := Option.map_eq_some_iff.mp (show (mapO (rs G n) xs).map PyData.list = some p from h)
    refine ⟨by simp only [PyData.plain]; exact plain_of_all (fun d p q => (rs_fact n d p q).1) e, ?_⟩
    simp only [PyData.depth]
    have := depth_of_all (fun d p q => (rs_fact n d p q).2) e
    omega
  | n + 1, .loc i, p, h => by
    unfold rs at h
    cases eg : G[i]? with
    | none => rw [eg] at h; simp at h
    | some o =>
      obtain ⟨xs⟩ := o
      rw [eg] at h
      obtain ⟨ps, e, rfl⟩ := Option.map_eq_some_iff.mp (show (mapO (rs G n) xs).map PyData.list = some p from h)
      refine ⟨by simp only [PyData.plain]; exact plain_of_all (fun d p q => (rs_fact n d p q).1) e, ?_⟩
      simp only [PyData.depth]
      have := depth_of_all (fun d p q => (rs_fact n d p q).2) e
      omega
/-- pure data stand for themselves -/
theorem mapO_pure {G : GH} {n : Nat} (hf : ∀ d, pureD d = true → dep d < n → rs G n d = some (py d)) : ∀ {xs : List D}, pureDs xs = true → (xs ≠ [] → deps xs < n) → mapO (rs G n) xs = some (pys xs)
  | [], _, _ => rfl
  | x :: xs, hp, hd => by
    simp only [pureDs, Bool.and_eq_true] at hp
    have hd := hd (by simp)
    simp only [deps] at hd
    unfold mapO
    rw [hf x hp.1 (by omega), mapO_pure hf hp.2 (fun _ => by omega)]
    rfl
theorem rs_pure {G : GH} : ∀ (n : Nat) (d : D), pureD d = true → dep d < n → rs G n d = some (py d)
  | 0, d, _, h => absurd h (Nat.not_lt_zero _)
  | n + 1, .non, _, _ => rfl
  | n + 1, .bl b, _, _ => rfl
  | n + 1, .int b, _, _ => rfl
  | n + 1, .str b, _, _ => rfl
  | n + 1, .tup xs, hp, hd => by
    simp only [pureD] at hp
    simp only [dep] at hd
    unfold rs
    rw [mapO_pure (fun d h1 h2 => rs_pure n d h1 h2) hp (fun _ => by omega)]
    rfl
  | n + 1, .frz xs, hp, _ => by simp [pureD] at hp
  | n + 1, .loc i, hp, _ => by simp [pureD] at hp
theorem dps_rs {ρ : List Addr} {H : Hp} {f : D → Option PyData} (hf : ∀ d v p, RepV K ρ H d v → f d = some p → Dp K H v p) : ∀ (xs : List D) (vs : List V) (ps : List PyData), RepVs K ρ H xs vs → mapO f xs = some ps → DpAll K H vs ps
  | [], vs, ps, r, h => by
    have h : some [] = some ps := h
    cases h
    rw [show vs = [] from r]; exact .nil
  | x :: xs, vs, ps, r, h => by
    obtain ⟨v, w, rfl, r1, r2⟩ := r
    obtain ⟨y, zs, h1, h2, rfl⟩ := mapO_cons h
    exact .cons (hf x v y r1 h1) (dps_rs hf xs w zs r2 h2)
theorem dp_rs {ρ : List Addr} {H : Hp} {G : GH} (S : Sto K ρ G H) : ∀ (n : Nat) (d : D) (v : V) (p : PyData), RepV K ρ H d v → rs G n d = some p → Dp K H v p
  | 0, d, v, p, r, h => by cases d <;> cases h
  | n + 1, .non, v, p, r, h => by cases (show some PyData.none = some p from h); rw [repN r]; exact .non
  | n + 1, .bl b, v, p, r, h => by cases (show some (PyData.bool b) = some p from h); rw [repB r]; exact .bl _
  | n + 1, .int b, v, p, r, h => by cases (show some (PyData.int b) = some p from h); rw [repI r]; exact .int _
  | n + 1, .str b, v, p, r, h => by cases (show some (PyData.str b) = some p from h); rw [repS r]; exact .str _
  | n + 1, .tup xs, v, p, r, h => by
    obtain ⟨ps, e, rfl⟩ := Option.map_eq_some_iff.mp (show (mapO (rs G n) xs).map PyData.tuple = some p from h)
    obtain ⟨a, vs, rfl, h2, h3⟩ := repT r
    exact .tup h2 (dps_rs (fun d v p r q => dp_rs S n d v p r q) xs vs ps h3 e)
  | n + 1, .frz xs, v, p, r, h => by
    obtain ⟨ps, e, rfl⟩ := Option.map_eq_some_iff.mp (show (mapO (rs G n) xs).map PyData.list = some p from h)
    obtain ⟨a, vs, rfl, h2, h3⟩ := repF r
    exact .lst h2.l (dps_rs (fun d v p r q => dp_rs S n d v p r q) xs vs ps h3 e)
  | n + 1, .loc i, v, p, r, h => by
    unfold rs at h
    cases eg : G[i]? with
    | none => rw [eg] at h; simp at h
    | some o =>
      obtain ⟨xs⟩ := o
      rw [eg] at h
      obtain ⟨ps, e, rfl⟩ := Option.map_eq_some_iff.mp (show (mapO (rs G n) xs).map PyData.list = some p from h)
      obtain ⟨a, vs, rfl, h2, h3, h4⟩ := repL2 S r eg
      exact .lst (SqL.of h3) (dps_rs (fun d v p r q => dp_rs S n d v p r q) xs vs ps h4 e)
section
variable {X : Cx}
theorem eqD_of {ρ : List Addr} {H : Hp} {G : GH} {a b : D} {x y : V} {ok : Bool → GH → Prop} {ex : Str → Option D → GH → Prop} (S : Sto K ρ G H) (ra : RepV K ρ H a x) (rb : RepV K ρ H b y) (h : Post (eqD a b) G ok ex) :
    ∃ p q, p.plain = true ∧ q.plain = true ∧ Dp K H x p ∧ Dp K H y q ∧ p.depth ≤ 64 ∧ q.depth ≤ 64 ∧ ok (PyData.eqv p q) G := by
  unfold Post eqD at h
  cases e1 : rs G 64 a with
  | none => rw [e1] at h; exact h.elim
  | some p =>
    cases e2 : rs G 64 b with
    | none => rw [e1, e2] at h; exact h.elim
    | some q =>
      rw [e1, e2] at h
      have f1 := rs_fact 64 a p e1
      have f2 := rs_fact 64 b q e2
      exact ⟨p, q, f1.1, f2.1, dp_rs S 64 a x p ra e1, dp_rs S 64 b y q rb e2, by omega, by omega, h⟩
theorem inD_of {ρ : List Addr} {H : Hp} {G : GH} {a b : D} {x y : V} {ok : Bool → GH → Prop} {ex : Str → Option D → GH → Prop} (S : Sto K ρ G H) (ra : RepV K ρ H a x) (rb : RepV K ρ H b y) (h : Post (inD a b) G ok ex) :
    ∃ ps q, PyData.plainAll ps = true ∧ q.plain = true ∧ Dp K H x q ∧ (Dp K H y (.list ps) ∨ Dp K H y (.tuple ps)) ∧ q.depth ≤ 64 ∧ ok (ps.any fun p => PyData.eqv p q) G := by
  unfold inD at h
  obtain ⟨p, vs, ys, rfl, hs, rr, h⟩ := getS_of S rb h.bind
  unfold Post at h
  cases e1 : mapO (rs G 64) ys with
  | none => simp only [e1] at h
  | some ps =>
    cases e2 : rs G 64 a with
    | none => simp only [e1, e2] at h
    | some q =>
      simp only [e1, e2] at h
      have f2 := rs_fact 64 a q e2
      have da := dps_rs (fun d v p r q => dp_rs S 64 d v p r q) ys vs ps rr e1
      refine ⟨ps, q, plain_of_all (fun d p z => (rs_fact 64 d p z).1) e1, f2.1, dp_rs S 64 a x q ra e2, ?_, by omega, h⟩
      rcases hs with hs | hs
      · exact .inl (.lst hs da)
      · exact .inr (.tup hs da)
abbrev cmpOf : Cmp → CmpOp
  | .lt => .Lt | .le => .LtE | .gt => .Gt | .ge => .GtE | .eq => .Eq | .ne => .NotEq | .is => .Is | .isnot => .IsNot | .isin => .In | .notin => .NotIn
theorem op_cmpD (hu : X.A.units + 70 < cLine) (o : Cmp) : OpR X (compareOp (cmpOf o)) (rD2 X.K (cmpD o)) := by
  intro pins s σ H x y v u Q I rx ry h
  obtain ⟨ρ, G, a, b, S, ra, rb, h⟩ := h
  cases o with
  | eq =>
    obtain ⟨p, q, hp, hq, dp, dq, hd, hd2, h⟩ := eqD_of S ra rb (show Post (eqD a b >>= fun c => mret (D.bl c)) G (Want X.K ρ H Q) noex from h).bind
    obtain ⟨as, r1⟩ := Dp.reads I _ x v dp rx
    obtain ⟨bs, r2⟩ := Dp.reads I _ y u dq ry
    exact SeqAt.eq_plain r1 r2 hp hq (by omega) ⟨.bl _, H, I, rfl, h.mret.bl S⟩
  | ne =>
    obtain ⟨p, q, hp, hq, dp, dq, hd, hd2, h⟩ := eqD_of S ra rb (show Post (eqD a b >>= fun c => mret (D.bl (!c))) G (Want X.K ρ H Q) noex from h).bind
    obtain ⟨as, r1⟩ := Dp.reads I _ x v dp rx
    obtain ⟨bs, r2⟩ := Dp.reads I _ y u dq ry
    exact SeqAt.ne_plain r1 r2 hp hq (by omega) ⟨.bl _, H, I, rfl, h.mret.bl S⟩
  | isin =>
    obtain ⟨ys, q, hys, hq, dx, dy, hd, h⟩ := inD_of S ra rb (show Post (inD a b >>= fun c => mret (D.bl c)) G (Want X.K ρ H Q) noex from h).bind
    obtain ⟨as, r1⟩ := Dp.reads I _ x v dx rx
    have hroom : X.A.units + 1 + min (PyData.depthAll ys) q.depth < cLine := by omega
    rcases dy with dy | dy
    · obtain ⟨bs, r2⟩ := Dp.reads I _ y u dy ry
      exact SeqAt.in_list_data r2 r1 hys hq hroom ⟨.bl _, H, I, rfl, h.mret.bl S⟩
    · obtain ⟨bs, r2⟩ := Dp.reads I _ y u dy ry
      exact SeqAt.in_tuple_data r2 r1 hys hq hroom ⟨.bl _, H, I, rfl, h.mret.bl S⟩
  | notin =>
    obtain ⟨ys, q, hys, hq, dx, dy, hd, h⟩ := inD_of S ra rb (show Post (inD a b >>= fun c => mret (D.bl (!c))) G (Want X.K ρ H Q) noex from h).bind
    obtain ⟨as, r1⟩ := Dp.reads I _ x v dx rx
    have hroom : X.A.units + 1 + min (PyData.depthAll ys) q.depth < cLine := by omega
    rcases dy with dy | dy
    · obtain ⟨bs, r2⟩ := Dp.reads I _ y u dy ry
      exact SeqAt.notIn_list_data r2 r1 hys hq hroom ⟨.bl _, H, I, rfl, h.mret.bl S⟩
    · obtain ⟨bs, r2⟩ := Dp.reads I _ y u dy ry
      exact SeqAt.notIn_tuple_data r2 r1 hys hq hroom ⟨.bl _, H, I, rfl, h.mret.bl S⟩
  | is =>
    cases b with
    | non =>
      cases repN rb
      refine op_isN pins s σ H x _ v u Q I rx ry ⟨rfl, ?_⟩
      have e : decide (x = V.non) = isNon a := by
        cases a with
        | non => cases repN ra; rfl
        | bl _ => cases repB ra; rfl
        | int _ => cases repI ra; rfl
        | str _ => cases repS ra; rfl
        | tup _ => obtain ⟨_, _, rfl, _⟩ := repT ra; rfl
        | frz _ => obtain ⟨_, _, rfl, _⟩ := repF ra; rfl
        | loc _ => obtain ⟨_, rfl, _⟩ := repL ra; rfl
      rw [e]
      exact (show Post (mret (.bl (isNon a))) G (Want X.K ρ H Q) noex from h).mret.bl S
    | bl c =>
      cases a with
      | bl d =>
        cases repB ra; cases repB rb
        exact op_isBl pins s σ H _ _ v u Q I rx ry ⟨d, c, rfl, rfl, (show Post (mret (.bl (decide (d = c)))) G (Want X.K ρ H Q) noex from h).mret.bl S⟩
      | _ => exact h.elim
    | _ => exact h.elim
  | isnot =>
    cases b with
    | non =>
      cases repN rb
      refine op_notN pins s σ H x _ v u Q I rx ry ⟨rfl, ?_⟩
      have e : decide (x = V.non) = isNon a := by
        cases a with
        | non => cases repN ra; rfl
        | bl _ => cases repB ra; rfl
        | int _ => cases repI ra; rfl
        | str _ => cases repS ra; rfl
        | tup _ => obtain ⟨_, _, rfl, _⟩ := repT ra; rfl
        | frz _ => obtain ⟨_, _, rfl, _⟩ := repF ra; rfl
        | loc _ => obtain ⟨_, rfl, _⟩ := repL ra; rfl
      rw [e]
      exact (show Post (mret (.bl (!isNon a))) G (Want X.K ρ H Q) noex from h).mret.bl S
    | bl c =>
      cases a with
      | bl d =>
        cases repB ra; cases repB rb
        exact op_notBl pins s σ H _ _ v u Q I rx ry ⟨d, c, rfl, rfl, (show Post (mret (.bl (!decide (d = c)))) G (Want X.K ρ H Q) noex from h).mret.bl S⟩
      | _ => exact h.elim
    | _ => exact h.elim
  | lt =>
    cases a with
    | int i =>
      cases b with
      | int j => cases repI ra; cases repI rb; exact op_lt pins s σ H _ _ v u Q I rx ry ⟨i, j, rfl, rfl, h.mret.bl S⟩
      | _ => exact h.elim
    | _ => exact h.elim
  | le =>
    cases a with
    | int i =>
      cases b with
      | int j => cases repI ra; cases repI rb; exact op_le pins s σ H _ _ v u Q I rx ry ⟨i, j, rfl, rfl, h.mret.bl S⟩
      | _ => exact h.elim
    | _ => exact h.elim
  | gt =>
    cases a with
    | int i =>
      cases b with
      | int j => cases repI ra; cases repI rb; exact op_gt pins s σ H _ _ v u Q I rx ry ⟨i, j, rfl, rfl, h.mret.bl S⟩
      | _ => exact h.elim
    | _ => exact h.elim
  | ge =>
    cases a with
    | int i =>
      cases b with
      | int j => cases repI ra; cases repI rb; exact op_ge pins s σ H _ _ v u Q I rx ry ⟨i, j, rfl, rfl, h.mret.bl S⟩
      | _ => exact h.elim
    | _ => exact h.elim
/-! ### subscripts -/
theorem atI_rep {ρ : List Addr} {H : Hp} {ds : List D} {vs : List V} {i : Int} {d : D} (r : RepVs K ρ H ds vs) (h : atI ds i = some d) : ∃ v, atI vs i = some v ∧ RepV K ρ H d v := by
  unfold atI at h ⊢
  rw [r.length]
  cases e : ixN ds.length i with
  | none => rw [e] at h; cases h
  | some j =>
    rw [e] at h
    exact r.get h
theorem ix_D : IxR X (rD2 X.K idxD) := by
  intro value slice pins s σ H x y v u Q I rx ry h hs
  obtain ⟨ρ, G, a, b, S, ra, rb, h⟩ := h
  cases b with
  | int i =>
    cases repI rb
    have h : Post (getS a >>= fun xs => atD xs i) G (Want X.K ρ H Q) noex := h
    obtain ⟨p, vs, xs, rfl, hq, rs, h⟩ := getS_of S ra h.bind
    unfold atD at h
    cases e : atI xs i with
    | none => rw [e] at h; exact h.mbad.elim
    | some d =>
      rw [e] at h
      obtain ⟨w, hw, rw'⟩ := atI_rep rs e
      have q := h.mret.self S rw'
      rcases hq with hq | hq
      · exact ix_list value slice pins s σ H _ _ v u Q I rx ry ⟨p, vs, i, w, rfl, rfl, hq, hw, q⟩ hs
      · exact ix_tup value slice pins s σ H _ _ v u Q I rx ry ⟨p, vs, i, w, rfl, rfl, hq, hw, q⟩ hs
  | _ => exact h.elim
def rSlD (K : PySem.W.Frag) : V → Option Int → Option Int → Hp → VK → Prop := fun x lo hi H Q => ∃ ρ G a, Sto K ρ G H ∧ RepV K ρ H a x ∧ Post (sliceD a lo hi) G (Want K ρ H Q) noex
theorem sl_D : SlR X (rSlD X.K) := by
  intro pins s σ H x v vl vu lo hi sl Q I rx hs pl pu h
  obtain ⟨ρ, G, a, S, ra, h⟩ := h
  cases a with
  | tup xs =>
    obtain ⟨p, vs, rfl, h2, h3⟩ := repT ra
    have h : Want X.K ρ H Q (.tup (cutD xs lo hi)) G := h
    have h4 := h3.cut lo hi
    refine sl_tupA pins s σ H _ v vl vu lo hi sl Q I rx hs pl pu ⟨p, vs, rfl, h2, fun e => ?_, fun _ => h.tup S h4⟩
    have ew : cutV vs lo hi = vs := by
      unfold cutV
      rw [e.1, e.2]; simp
    rw [ew] at h4
    exact h.self (d := .tup (cutD xs lo hi)) S (show RepV X.K ρ H (.tup (cutD xs lo hi)) _ from ⟨p, vs, rfl, h2, h4⟩)
  | frz xs =>
    obtain ⟨p, vs, rfl, h2, h3⟩ := repF ra
    obtain ⟨hz, hp⟩ := newL_of (ex := noex) S (h3.cut lo hi) (show Post (newL (cutD xs lo hi)) G (Want X.K ρ H Q) noex from h)
    exact sl_list pins s σ H _ v vl vu lo hi sl Q I rx hs pl pu ⟨p, vs, rfl, h2.l, hp⟩
  | loc i =>
    unfold Post sliceD at h
    simp only at h
    cases e : G[i]? with
    | none => rw [e] at h; exact h.elim
    | some o =>
      obtain ⟨xs⟩ := o
      rw [e] at h
      obtain ⟨p, vs, rfl, h2, h3, h4⟩ := repL2 S ra e
      obtain ⟨hz, hp⟩ := newL_of (ex := noex) S (h4.cut lo hi) (show Post (newL (cutD xs lo hi)) G (Want X.K ρ H Q) noex from h)
      exact sl_list pins s σ H _ v vl vu lo hi sl Q I rx hs pl pu ⟨p, vs, rfl, SqL.of h3, hp⟩
  | _ => exact h.elim
/-! ### calls of built-ins -/
theorem ints_rep {ρ : List Addr} {H : Hp} : ∀ {ds : List D} {vs : List V} {ns : List Int}, ints? ds = some ns → RepVs K ρ H ds vs → vs = ns.map V.int
  | [], vs, ns, h, r => by
    have h : some [] = some ns := h
    cases h
    rw [show vs = [] from r]; rfl
  | d :: ds, vs, ns, h, r => by
    obtain ⟨v, w, rfl, r1, r2⟩ := r
    cases d with
    | int i =>
      have h : (ints? ds).map (i :: ·) = some ns := h
      cases e : ints? ds with
      | none => rw [e] at h; cases h
      | some ms =>
        rw [e] at h
        simp at h
        subst h
        rw [repI r1, ints_rep e r2]; rfl
    | _ => exact absurd (show none = some ns from h) (by simp)
theorem bls_rep {ρ : List Addr} {H : Hp} : ∀ {ds : List D} {vs : List V} {ns : List Bool}, bls? ds = some ns → RepVs K ρ H ds vs → vs = ns.map V.bl
  | [], vs, ns, h, r => by
    have h : some [] = some ns := h
    cases h
    rw [show vs = [] from r]; rfl
  | d :: ds, vs, ns, h, r => by
    obtain ⟨v, w, rfl, r1, r2⟩ := r
    cases d with
    | bl i =>
      have h : (bls? ds).map (i :: ·) = some ns := h
      cases e : bls? ds with
      | none => rw [e] at h; cases h
      | some ms =>
        rw [e] at h
        simp at h
        subst h
        rw [repB r1, bls_rep e r2]; rfl
    | _ => exact absurd (show none = some ns from h) (by simp)
theorem rep1 {ρ : List Addr} {H : Hp} {d : D} {vs : List V} (r : RepVs K ρ H [d] vs) : ∃ v, vs = [v] ∧ RepV K ρ H d v := by
  obtain ⟨v, w, rfl, r1, r2⟩ := r
  rw [show w = [] from r2]
  exact ⟨v, rfl, r1⟩
theorem rep2 {ρ : List Addr} {H : Hp} {d e : D} {vs : List V} (r : RepVs K ρ H [d, e] vs) : ∃ v w, vs = [v, w] ∧ RepV K ρ H d v ∧ RepV K ρ H e w := by
  obtain ⟨v, w, rfl, r1, r2⟩ := r
  obtain ⟨w, rfl, r3⟩ := rep1 r2
  exact ⟨v, w, rfl, r1, r3⟩
abbrev CB (X : Cx) (u : Value) (b : Bi) : Prop := CallR X u (rDs X.K (biD b))
theorem cb_len : CB X (.builtin "len") .len := by
  intro pins s σ H xs us Q I r h
  obtain ⟨ρ, G, as, S, ra, h⟩ := h
  match as, ra, h with
  | [], _, h => exact absurd h (by simp [biD, Post, mbad])
  | [a], ra, h =>
    obtain ⟨v, rfl, rb⟩ := rep1 ra
    obtain ⟨p, vs, ys, rfl, hq, rs, h⟩ := getS_of S rb (show Post (getS a >>= fun xs => mret (D.int xs.length)) G (Want X.K ρ H Q) noex from h).bind
    refine call_len pins s σ H _ us Q I r ⟨.ref p, vs.length, rfl, ?_, ?_⟩
    · rcases hq with hq | hq
      · exact .inl ⟨vs, hq, rfl⟩
      · exact .inr ⟨vs, hq, rfl⟩
    · rw [rs.length]; exact h.mret.int S
  | _ :: _ :: _, _, h => exact absurd h (by simp [biD, Post, mbad])
theorem cb_abs : CB X (.builtin "abs") .abs := by
  intro pins s σ H xs us Q I r h
  obtain ⟨ρ, G, as, S, ra, h⟩ := h
  match as, ra, h with
  | [], _, h => exact absurd h (by simp [biD, Post, mbad])
  | [a], ra, h =>
    obtain ⟨v, rfl, rb⟩ := rep1 ra
    cases a with
    | int i => cases repI rb; exact call_abs pins s σ H _ us Q I r ⟨i, rfl, h.mret.int S⟩
    | _ => exact absurd h (by simp [biD, Post, mbad])
  | _ :: _ :: _, _, h => exact absurd h (by simp [biD, Post, mbad])
theorem cb_int : CB X (.type "int") .int := by
  intro pins s σ H xs us Q I r h
  obtain ⟨ρ, G, as, S, ra, h⟩ := h
  match as, ra, h with
  | [], _, h => exact absurd h (by simp [biD, Post, mbad])
  | [a], ra, h =>
    obtain ⟨v, rfl, rb⟩ := rep1 ra
    cases a with
    | int i => cases repI rb; exact call_int1 pins s σ H _ us Q I r (.inl ⟨i, rfl, h.mret.int S⟩)
    | bl i => cases repB rb; exact call_int1 pins s σ H _ us Q I r (.inr ⟨i, rfl, h.mret.int S⟩)
    | _ => exact absurd h (by simp [biD, Post, mbad])
  | _ :: _ :: _, _, h => exact absurd h (by simp [biD, Post, mbad])
theorem cb_sum (hc : X.calm = true) : CB X (.builtin "sum") .sum := by
  intro pins s σ H xs us Q I r h
  obtain ⟨ρ, G, as, S, ra, h⟩ := h
  match as, ra, h with
  | [], _, h => exact absurd h (by simp [biD, Post, mbad])
  | [a], ra, h =>
    obtain ⟨v, rfl, rb⟩ := rep1 ra
    obtain ⟨p, vs, ys, rfl, hq, rs, h⟩ := getL_of S rb (show Post (getL a >>= fun xs => (match ints? xs with | some ns => mret (D.int ns.sum) | none => mbad)) G (Want X.K ρ H Q) noex from h).bind
    cases e : ints? ys with
    | none => rw [e] at h; exact h.mbad.elim
    | some ns =>
      rw [e] at h
      rw [ints_rep e rs] at hq
      exact cr_sum hc pins s σ H _ us Q I r ⟨p, ns, rfl, hq, h.mret.int S⟩
  | _ :: _ :: _, _, h => exact absurd h (by simp [biD, Post, mbad])
theorem cb_all (hc : X.calm = true) : CB X (.builtin "all") .all := by
  intro pins s σ H xs us Q I r h
  obtain ⟨ρ, G, as, S, ra, h⟩ := h
  match as, ra, h with
  | [], _, h => exact absurd h (by simp [biD, Post, mbad])
  | [a], ra, h =>
    obtain ⟨v, rfl, rb⟩ := rep1 ra
    obtain ⟨p, vs, ys, rfl, hq, rs, h⟩ := getL_of S rb (show Post (getL a >>= fun xs => (match bls? xs with | some bs => mret (D.bl (bs.all id)) | none => mbad)) G (Want X.K ρ H Q) noex from h).bind
    cases e : bls? ys with
    | none => rw [e] at h; exact h.mbad.elim
    | some ns =>
      rw [e] at h
      rw [bls_rep e rs] at hq
      exact cr_all hc pins s σ H _ us Q I r ⟨p, ns, rfl, hq, h.mret.bl S⟩
  | _ :: _ :: _, _, h => exact absurd h (by simp [biD, Post, mbad])
theorem cb_any (hc : X.calm = true) : CB X (.builtin "any") .any := by
  intro pins s σ H xs us Q I r h
  obtain ⟨ρ, G, as, S, ra, h⟩ := h
  match as, ra, h with
  | [], _, h => exact absurd h (by simp [biD, Post, mbad])
  | [a], ra, h =>
    obtain ⟨v, rfl, rb⟩ := rep1 ra
    obtain ⟨p, vs, ys, rfl, hq, rs, h⟩ := getL_of S rb (show Post (getL a >>= fun xs => (match bls? xs with | some bs => mret (D.bl (bs.any id)) | none => mbad)) G (Want X.K ρ H Q) noex from h).bind
    cases e : bls? ys with
    | none => rw [e] at h; exact h.mbad.elim
    | some ns =>
      rw [e] at h
      rw [bls_rep e rs] at hq
      exact cr_any hc pins s σ H _ us Q I r ⟨p, ns, rfl, hq, h.mret.bl S⟩
  | _ :: _ :: _, _, h => exact absurd h (by simp [biD, Post, mbad])
theorem cb_tuple : CB X (.type "tuple") .tuple := by
  intro pins s σ H xs us Q I r h
  obtain ⟨ρ, G, as, S, ra, h⟩ := h
  match as, ra, h with
  | [], _, h => exact absurd h (by simp [biD, Post, mbad])
  | [a], ra, h =>
    obtain ⟨v, rfl, rb⟩ := rep1 ra
    obtain ⟨p, vs, ys, rfl, hq, rs, h⟩ := getS_of S rb (show Post (getS a >>= fun xs => mret (D.tup xs)) G (Want X.K ρ H Q) noex from h).bind
    have h : Want X.K ρ H Q (.tup ys) G := h.mret
    refine call_tuple_of pins s σ H _ us Q I r ⟨p, vs, rfl, ?_⟩
    rcases hq with hq | hq
    · exact .inl ⟨hq, h.tup S rs⟩
    · exact .inr ⟨hq, h.self (d := .tup ys) S (show RepV X.K ρ H (.tup ys) _ from ⟨p, vs, rfl, hq, rs⟩)⟩
  | _ :: _ :: _, _, h => exact absurd h (by simp [biD, Post, mbad])
theorem cb_list : CB X (.type "list") .list := by
  intro pins s σ H xs us Q I r h
  obtain ⟨ρ, G, as, S, ra, h⟩ := h
  match as, ra, h with
  | [], _, h => exact absurd h (by simp [biD, Post, mbad])
  | [a], ra, h =>
    obtain ⟨v, rfl, rb⟩ := rep1 ra
    obtain ⟨p, vs, ys, rfl, hq, rs, h⟩ := getS_of S rb (show Post (getS a >>= newL) G (Want X.K ρ H Q) noex from h).bind
    obtain ⟨hz, hp⟩ := newL_of S rs h
    exact call_list_of pins s σ H _ us Q I r ⟨p, vs, rfl, hq, hp⟩
  | _ :: _ :: _, _, h => exact absurd h (by simp [biD, Post, mbad])
theorem two_ints {ρ : List Addr} {H : Hp} {G : GH} {as : List D} {xs : List V} {f : List D → M D} {g : Int → Int → Int} {Q : VK} (S : Sto K ρ G H) (ra : RepVs K ρ H as xs) (h : Post (f as) G (Want K ρ H Q) noex)
    (h0 : ∀ as, (∀ i j, as ≠ [.int i, .int j]) → f as = mbad) (h1 : ∀ i j, f [.int i, .int j] = mret (.int (g i j))) : ∃ i j, xs = [.int i, .int j] ∧ Q (.int (g i j)) H := by
  by_cases hh : ∃ i j, as = [.int i, .int j]
  · obtain ⟨i, j, rfl⟩ := hh
    rw [h1] at h
    obtain ⟨v, w, rfl, r1, r2⟩ := rep2 ra
    rw [repI r1, repI r2]
    exact ⟨i, j, rfl, h.mret.int S⟩
  · rw [h0 as fun i j e => hh ⟨i, j, e⟩] at h
    exact h.mbad.elim
theorem cb_max2 (hc : X.calm = true) : CB X (.builtin "max") .max2 := by
  intro pins s σ H xs us Q I r h
  obtain ⟨ρ, G, as, S, ra, h⟩ := h
  exact call_max2 hc pins s σ H _ us Q I r (two_ints S ra h (fun as hn => by unfold biD; split <;> first | rfl | exact absurd rfl (hn _ _) | contradiction) fun _ _ => rfl)
theorem cb_min2 (hc : X.calm = true) : CB X (.builtin "min") .min2 := by
  intro pins s σ H xs us Q I r h
  obtain ⟨ρ, G, as, S, ra, h⟩ := h
  exact call_min2 hc pins s σ H _ us Q I r (two_ints S ra h (fun as hn => by unfold biD; split <;> first | rfl | exact absurd rfl (hn _ _) | contradiction) fun _ _ => rfl)
theorem cb_gcd : CB X (.builtin "math.gcd") .gcd := by
  intro pins s σ H xs us Q I r h
  obtain ⟨ρ, G, as, S, ra, h⟩ := h
  exact cr_gcd pins s σ H _ us Q I r (two_ints S ra h (fun as hn => by unfold biD; split <;> first | rfl | exact absurd rfl (hn _ _) | contradiction) fun _ _ => rfl)
theorem txt_of {ρ : List Addr} {H : Hp} {G : GH} {d : D} {v : V} {n : Nat} {x : Str} (S : Sto K ρ G H) (r : RepV K ρ H d v) (h : txt? G n d = some x) : ∃ p, Dp K H v p ∧ p.showable = true ∧ p.plain = true ∧ p.depth ≤ 30 ∧ p.shown = x ∧ x.length + n ≤ sizeLine := by
  unfold txt? at h
  cases e : rs G 30 d with
  | none => rw [e] at h; cases h
  | some p =>
    rw [e] at h
    simp only at h
    split at h
    · rename_i hc
      have h := Option.some.inj h
      have f := rs_fact 30 d p e
      exact ⟨p, dp_rs S 30 d v p r e, hc.1, f.1, f.2, h, h ▸ hc.2⟩
    · cases h
mutual
theorem plain_nodict : ∀ p : PyData, p.plain = true → p.hasDict = false
  | .none, _ | .bool _, _ | .int _, _ | .str _, _ => by simp only [PyData.hasDict]
  | .list xs, h => by simp only [PyData.plain] at h; simp only [PyData.hasDict]; exact plains_nodict xs h
  | .tuple xs, h => by simp only [PyData.plain] at h; simp only [PyData.hasDict]; exact plains_nodict xs h
  | .dict kvs, h => by simp [PyData.plain] at h
theorem plains_nodict : ∀ ps : List PyData, PyData.plainAll ps = true → PyData.hasDictAll ps = false
  | [], _ => by simp only [PyData.hasDictAll]
  | p :: ps, h => by
    simp only [PyData.plainAll, Bool.and_eq_true] at h
    simp only [PyData.hasDictAll, plain_nodict p h.1, plains_nodict ps h.2, Bool.or_false]
end
theorem int_log {i : Int} (h : (PyData.int i).showable = true) : i.natAbs.log2 < 1920 := by
  simpa [PyData.showable] using h
theorem cb_repr (hg : X.A.guards = some []) (hu : X.A.units + 70 < cLine) : CB X (.builtin "repr") .repr := by
  intro pins s σ H xs us Q I r h
  obtain ⟨ρ, G, as, S, ra, h⟩ := h
  match as, ra, h with
  | [], _, h => exact absurd h (by simp [biD, Post, mbad])
  | [a], ra, h =>
    obtain ⟨v, rfl, rb⟩ := rep1 ra
    unfold Post biD at h
    simp only at h
    cases e : txt? G 0 a with
    | none => rw [e] at h; exact h.elim
    | some x =>
      rw [e] at h
      obtain ⟨p, dp, h1, h2, h3, h4, h5⟩ := txt_of S rb e
      subst h4
      obtain ⟨u, rfl, ru⟩ := vals1 r
      obtain ⟨bs, rd⟩ := Dp.reads I _ v u dp ru
      have fin : ∀ (h' : Heap) (t : Tok) (tk : Nat), (∀ b o, s.heap.get? b = some o → h'.get? b = some o) → EP X pins σ Q (.str p.shown t) { s with heap := h', toks := tk } := fun h' t tk hk =>
        ⟨.str p.shown, H, I.kept (t' := tk) hk, ⟨t, rfl⟩, h _ H ρ S Ext.refl rfl⟩
      have big : ∀ {a : Addr}, Reads s.heap (.ref a) p bs → wpAny (model X.prog X.w) X.A (call (.builtin "repr") [.ref a]) (EP X pins σ Q) X.xe s := fun rd =>
        repr_of_reads' rd h1 (PyData.noDict_hsm (plain_nodict p h2)) hg (by omega) (fun _ _ z => z) (fun h' t tk hk => fin h' t tk hk) (by omega)
      cases rd with
      | none => exact PySem.P.repr_of_none (by simpa only [PyData.shown] using fin s.heap _ _ fun _ _ z => z)
      | bool b => exact PySem.P.repr_of_bool (by simpa only [PyData.shown] using fin s.heap _ _ fun _ _ z => z)
      | int i t => exact PySem.P.repr_of_int (int_log h1) (by simpa only [PyData.shown] using fin s.heap _ _ fun _ _ z => z)
      | str y t => exact PySem.P.repr_of_str (by simpa only [PyData.shown] using fin s.heap _ _ fun _ _ z => z) (by simp only [PyData.shown] at h5; omega)
      | list a1 a2 a3 a4 => exact big (.list a1 a2 a3 a4)
      | tuple a1 a2 a3 a4 => exact big (.tuple a1 a2 a3 a4)
      | dict a1 a2 a3 a4 a5 => simp [PyData.plain] at h2
  | _ :: _ :: _, _, h => exact absurd h (by simp [biD, Post, mbad])
end
end OC

/-! t[::-1] of a tuple -/
namespace HT2
open PySem PySem.Spec PyProof.Rows L2 HT
section
variable {prog : Program} {w : World} {A : Around} {E : Value → Shared → Prop} {s : Shared}
theorem fm_congr {α β : Type} {f g : α → Option β} : ∀ {l : List α}, (∀ a ∈ l, f a = g a) → l.filterMap f = l.filterMap g
  | [], _ => rfl
  | a :: l, h => by
    rw [List.filterMap_cons, List.filterMap_cons, h a List.mem_cons_self, fm_congr fun b hb => h b (List.mem_cons_of_mem _ hb)]
theorem rev_pick (xs : Array Value) : ((List.range xs.size).filterMap fun (m : Nat) => xs[(((xs.size : Int) - 1) + (m : Int) * -1).toNat]?).toArray = xs.toList.reverse.toArray := by
  have e : ((List.range xs.size).filterMap fun (m : Nat) => xs[(((xs.size : Int) - 1) + (m : Int) * -1).toNat]?) = ((List.range xs.size).map fun k => xs.size - 1 - k).filterMap (fun j => xs[j]?) := by
    rw [List.filterMap_map]
    refine fm_congr fun m hm => ?_
    have hm' : m < xs.size := List.mem_range.mp hm
    have e1 : (((xs.size : Int) - 1) + (m : Int) * -1).toNat = xs.size - 1 - m := by omega
    rw [e1]; rfl
  rw [e, PySem.W.krv_range, List.filterMap_reverse]
  have := PySem.W.krv_all xs
  rw [this]
theorem adjust_rev (n : Nat) : Builtin.Slice.sliceAdjust none none (-1) (n : Int) = ((n : Int) - 1, -1) := by
  unfold Builtin.Slice.sliceAdjust
  simp
theorem places_rev (n : Nat) : Builtin.Slice.slicePlaces ((n : Int) - 1) (-1) (-1) = n := by
  unfold Builtin.Slice.slicePlaces
  simp
  first
    | (split <;> omega)
    | omega
theorem slicePart_m1 {Q : Option Int → Shared → Prop} {t : Tok} (h : Q (some (-1)) s) : wpAny (model prog w) A (Builtin.Slice.slicePartIndex (.int (-1) t)) Q E s := slicePart_ (.int _ _) h
theorem sliceApplied_rev {sl : Addr} {vs : Value} {n : Nat} {Q : Int × Int × Nat → Shared → Prop} (hs : s.heap.IsSliceOf sl .none .none vs) (ps : IsPart vs (some (-1)))
    (h : Q ((n : Int) - 1, -1, n) s) : wpAny (model prog w) A (Builtin.Slice.sliceApplied (.ref sl) (pure (n : Int))) Q E s := by
  obtain ⟨os, hos, hcs, hds⟩ := id hs
  unfold Builtin.Slice.sliceApplied Builtin.Slice.sliceFields
  refine wpAny_bind (wpAny_bind (wpAny_field hos hds (x := .none) rfl (wpAny_bind (wpAny_field hos hds (x := .none) rfl (wpAny_bind (wpAny_field hos hds (x := vs) rfl (wpAny_pure ?_)))))))
  refine wpAny_bind (slicePart_ ps ?_)
  show wpAny _ _ (if ((-1 : Int) == 0) = true then _ else _) _ _ s
  rw [if_neg (by decide)]
  refine wpAny_bind (slicePart_none (wpAny_bind (slicePart_none (wpAny_bind (wpAny_pure ?_)))))
  show wpAny _ _ (match Builtin.Slice.sliceAdjust none none (-1) (n : Int) with | (lo, hi) => pure (lo, (-1 : Int), Builtin.Slice.slicePlaces lo hi (-1))) _ _ s
  rw [adjust_rev n]
  show wpAny _ _ (pure ((n : Int) - 1, (-1 : Int), Builtin.Slice.slicePlaces ((n : Int) - 1) (-1) (-1))) _ _ s
  rw [places_rev]
  exact wpAny_pure h
theorem getItem_tuple_rev {t sl : Addr} {items : Array Value} {vs : Value} {Q : Value → Shared → Prop} (ht : IsTup s.heap t items) (hs : s.heap.IsSliceOf sl .none .none vs) (ps : IsPart vs (some (-1)))
    (h : Q (.ref s.heap.objs.size) { s with heap := s.heap.push { cls := .type "tuple", data := .seq items.toList.reverse.toArray } })
    (hsz : items.size ≤ sizeLine) : wpAny (model prog w) A (getItem (.ref t) (.ref sl)) Q E s := by
  have htake : sizeOk (.seq items.toList.reverse.toArray) := by
    show items.toList.reverse.toArray.size ≤ sizeLine
    rw [List.size_toArray, List.length_reverse, Array.length_toList]
    omega
  obtain ⟨os, hos, hcs, hds⟩ := id hs
  have hTs : s.TypeIs (.ref sl) "slice" := ⟨os, hos, hcs⟩
  unfold getItem
  try with_reducible refine wpAny_holding ?_
  first | refine wpAny_bind (wpAny_pure ?_) | skip
  refine wpAny_bind (wpAny_sequenceKey ht.typeIs (by decide) ?_)
  refine wpAny_bind (wpAny_callSpecial?_slot (name := Str.ofString "__getitem__") ht.typeIs PyProof.Rows.slot_tuple_getitem
    (wpAny_call_entry PyProof.Rows.slot_tuple_getitem ht.typeIs entry_tuple_getitem ?_ (args_tuple_getitem _ _)))
  show wpAny _ _ (Builtin.Tuple.tupleItemsOf (.ref t) >>= _) _ _ s
  refine wpAny_bind (tupleItemsOf_ ht ?_)
  refine wpAny_bind (wpAny_typeOf hTs ?_)
  rw [if_pos (by decide)]
  refine wpAny_bind (sliceApplied_rev hs ps ?_)
  have hno : ¬ ((((items.size : Int) - 1) == 0 && (-1 : Int) == 1 && items.size == items.size) = true) := by
    intro q
    rw [Bool.and_eq_true, Bool.and_eq_true] at q
    have q1 : (-1 : Int) = 1 := eq_of_beq q.1.2
    omega
  show wpAny _ _ (if ((((items.size : Int) - 1) == 0 && (-1 : Int) == 1 && items.size == items.size) = true) then _ else _) _ _ s
  rw [if_neg hno, rev_pick]
  first
    | exact wpAny_bind (m := Builtin.Tuple.tupleExact _) (wpAny_newObj_type (wpAny_pure ⟨_, rfl, wpAny_pure h⟩) htake)
    | exact wpAny_bind (m := Builtin.Tuple.tupleExact _) (wpAny_newObj_type (wpAny_bind (wpAny_pure (wpAny_pure ⟨_, rfl, wpAny_pure h⟩))) htake)
    | exact wpAny_bind (wpAny_bind (m := Builtin.Tuple.tupleExact _) (wpAny_newObj_type (wpAny_pure (wpAny_pure ⟨_, rfl, wpAny_pure h⟩)) htake))
    | exact wpAny_bind (wpAny_bind (m := Builtin.Tuple.tupleExact _) (wpAny_newObj_type (wpAny_pure ⟨_, rfl, wpAny_pure h⟩) htake))
end
end HT2
namespace OC
open PySem PySem.Spec PyProof.Rows L2
variable {K : PySem.W.Frag} {mg : Str → Option Value}
/-- e[::-1], e a tuple -/
def tRevT (K : PySem.W.Frag) (te : TE) : TE := fun σ H Q => te σ H fun x H1 => ∃ a xs, x = .ref a ∧ SqT K H1 a xs ∧ ∀ p, H1 p = none → Q (.ref p) (upd H1 p (.tup xs.reverse))
theorem pe_revT {X : Cx} {e : Expr} {te : TE} {k : Nat} {p1 p2 p3 pos : Pos} (he : PE X e te) : PE X (.Subscript e (.Slice none none (some (.UnaryOp .USub (.Constant (.int 1) k p1) p2)) p3) pos) (tRevT X.K te) := by
  refine ⟨fun pins s σ H Q I h => ?_⟩
  refine Subscript_ (thn (he.run pins s σ H _ I h) fun v s1 ⟨x, H1, I1, r1, q1⟩ => ?_)
  obtain ⟨a, xs, ex, hx, q⟩ := q1
  subst ex
  cases r1
  have hst : PO X (some (.UnaryOp .USub (.Constant (.int 1) k p1) p2)) (tPart (tUn (rU fun i => .int (-i)) (tC (.int 1)))) := po_some (pe_un un_neg pe_int)
  refine wpAny_Slice (thn (po_none.run pins s1 σ H1 (fun o H2 => o = none ∧ H2 = H1) I1 ⟨rfl, rfl⟩) fun vl s2 ⟨l, H2, I2, pl, el, e2⟩ => ?_)
  subst el e2
  refine thn (po_none.run pins s2 σ H2 (fun o H3 => o = none ∧ H3 = H2) I2 ⟨rfl, rfl⟩) fun vu s3 ⟨u, H3, I3, pu, eu, e3⟩ => ?_
  subst eu e3
  refine thn (hst.run pins s3 σ H3 (fun o H4 => o = some (-1) ∧ H4 = H3) I3 ⟨1, rfl, -1, rfl, rfl, rfl⟩) fun vs s4 ⟨o, H4, I4, ps, eo, e4⟩ => ?_
  subst eo e4
  have I5 : Inv X pins σ H4 { s4 with heap := s4.heap.push { cls := .type "slice", data := .fields #[vl, vu, vs] } } := I4.kept (t' := s4.toks) fun b ob q => Heap.get?_push_of_some _ q
  obtain ⟨its, r, ht, hz⟩ := I5.tuple hx
  have hlen := r.length
  have el : vl = .none := by cases pl; rfl
  have eu : vu = .none := by cases pu; rfl
  subst el eu
  show wpAny (model X.prog X.w) X.A (subscriptTail e (.Slice none none (some (.UnaryOp .USub (.Constant (.int 1) k p1) p2)) p3) (.ref a) (.ref s4.heap.objs.size)) (EP X pins σ Q) X.xe { s4 with heap := s4.heap.push { cls := .type "slice", data := .fields #[Value.none, Value.none, vs] } }
  refine tail_any (ops := [.ref a, .ref s4.heap.objs.size]) ht.typeIs (PyProof.Rows.slot_tuple_getitem.lookup) ?_ (by with_unfolding_all rfl)
  refine HT2.getItem_tuple_rev ht (Heap.IsSliceOf.new _ .none .none vs) ps ?_ (by rw [List.size_toArray]; omega)
  refine ⟨.ref _, _, I5.laid (t' := s4.toks) (o := .tup xs.reverse) (fun b ob q => Heap.get?_push_of_some _ q) (Nat.le_refl _) ?_, rfl, q _ (I5.hok.fresh (Nat.le_refl _))⟩
  exact ⟨by rw [List.length_reverse]; exact hz, _, r.reverse, ⟨_, Heap.get?_push_size _ rfl, rfl, 0, by simp⟩⟩

/-! ### isinstance -/
abbrev tyN : Ty → String
  | .int => "int" | .bool => "bool" | .str => "str" | .tup => "tuple" | .lst => "list"
theorem tyx_tup {H : Hp} {a : Addr} {vs : List V} (h : SqT K H a vs) : TyX K H (.ref a) (.type "tuple") := by
  rcases h with (h | ⟨o, h⟩) | ⟨o, its, n, h1, h2, _⟩
  · exact .base (.tup h)
  · exact .fTuple h
  · exact .kTuple h1 h2
theorem tyx_frz {H : Hp} {a : Addr} {vs : List V} (h : SqF K H a vs) : TyX K H (.ref a) (.type "list") := by
  rcases h with ⟨o, h⟩ | ⟨o, its, n, h1, h2, _⟩
  · exact .base (.frz h)
  · exact .kList h1 h2
theorem tyx_of {ρ : List Addr} {H : Hp} {G : GH} {d : D} {v : V} (S : Sto K ρ G H) (r : RepV K ρ H d v) (hd : ∀ i, d = .loc i → ∃ o, G[i]? = some o) :
    ∃ n, TyX K H v (.type n) ∧ ∀ t b, isTy G d t = some b → PySem.W.kitOne K (.type n) (.type (tyN t)) = some b := by
  cases d with
  | non => cases repN r; exact ⟨"NoneType", .base .non, fun t b h => by cases t <;> (have h : some false = some b := h; cases h; exact kit_ty (by decide +kernel))⟩
  | bl c => cases repB r; exact ⟨"bool", .base (.bl c), fun t b h => by cases t <;> (simp [isTy] at h; subst h; exact kit_ty (by decide +kernel))⟩
  | int c => cases repI r; exact ⟨"int", .base (.int c), fun t b h => by cases t <;> (simp [isTy] at h; subst h; exact kit_ty (by decide +kernel))⟩
  | str c => cases repS r; exact ⟨"str", .base (.str c), fun t b h => by cases t <;> (simp [isTy] at h; subst h; exact kit_ty (by decide +kernel))⟩
  | tup xs =>
    obtain ⟨a, vs, rfl, h2, h3⟩ := repT r
    exact ⟨"tuple", tyx_tup h2, fun t b h => by cases t <;> (simp [isTy] at h; subst h; exact kit_ty (by decide +kernel))⟩
  | frz xs =>
    obtain ⟨a, vs, rfl, h2, h3⟩ := repF r
    exact ⟨"list", tyx_frz h2, fun t b h => by cases t <;> (simp [isTy] at h; subst h; exact kit_ty (by decide +kernel))⟩
  | loc i =>
    obtain ⟨o, e⟩ := hd i rfl
    obtain ⟨xs⟩ := o
    obtain ⟨a, vs, rfl, h2, h3, h4⟩ := repL2 S r e
    exact ⟨"list", .base (.lst h3), fun t b h => by cases t <;> (simp [isTy, e] at h; subst h; exact kit_ty (by decide +kernel))⟩
theorem kitAny_of {n : String} {f : Ty → Option Bool} (hf : ∀ t b, f t = some b → PySem.W.kitOne K (.type n) (.type (tyN t)) = some b) (g : List Ty → Option Bool) (hg0 : g [] = some false)
    (hg : ∀ t ts, g (t :: ts) = (f t).bind fun b => (g ts).map fun c => b || c) : ∀ (ts : List Ty) (b : Bool), g ts = some b → PySem.W.kitAny K (.type n) (ts.map fun t => .type (tyN t)) = some b
  | [], b, h => by
    rw [hg0] at h; cases h
    unfold PySem.W.kitAny; rfl
  | t :: ts, b, h => by
    rw [hg] at h
    cases e1 : f t with
    | none => rw [e1] at h; cases h
    | some b1 =>
      rw [e1] at h
      cases e2 : g ts with
      | none => rw [e2] at h; cases h
      | some b2 =>
        rw [e2] at h
        have h : some (b1 || b2) = some b := h
        cases h
        refine kitAny_cons (hf t b1 e1) (fun e => ?_) (fun e => by rw [e]; rfl)
        rw [e]
        exact kitAny_of hf g hg0 hg ts b2 e2
theorem isinD_loc {G : GH} {d : D} {t : Ty} {ts : List Ty} {b : Bool} (h : isTys G d (t :: ts) = some b) : ∀ i, d = .loc i → ∃ o, G[i]? = some o := fun i e => by
  subst e
  cases q : G[i]? with
  | some o => exact ⟨o, rfl⟩
  | none => simp [isTys, isTy, q] at h
/-! ### methods of lists -/
def rMt (K : PySem.W.Frag) (m : Mt) : V → List V → Hp → VK → Prop := fun x xs H Q => ∃ ρ G a as, Sto K ρ G H ∧ RepV K ρ H a x ∧ RepVs K ρ H as xs ∧ Post (methD m a as) G (Want K ρ H Q) noex
section
variable {X : Cx}
theorem mt_appendD : MtR X "list.append" (rMt X.K .append) := by
  intro pins s σ H x xs v us Q I rx rxs h
  obtain ⟨ρ, G, a, as, S, ra, ras, h⟩ := h
  cases a with
  | loc i =>
    match as, ras, h with
    | [], _, h => exact absurd h (by simp [methD, Post, mbad])
    | [d], ras, h =>
      obtain ⟨w, rfl, rd⟩ := rep1 ras
      unfold Post methD at h
      simp only at h
      cases e : G[i]? with
      | none => rw [e] at h; exact h.elim
      | some o =>
        obtain ⟨ys⟩ := o
        rw [e] at h
        obtain ⟨p, vs, rfl, h2, h3, h4⟩ := repL2 S ra e
        by_cases hz : ys.length < sizeLine
        · simp only [hz, if_true] at h
          refine mt_append pins s σ H _ _ v us Q I rx rxs ⟨p, vs, w, rfl, rfl, h3, by rw [h4.length]; exact hz, ?_⟩
          exact h .non _ ρ (S.write h2 h3 (h4.append (RepVs.one rd))) (ext_upd (.inr ⟨_, h3⟩)) rfl
        · simp only [hz, if_false] at h
    | _ :: _ :: _, _, h => exact absurd h (by simp [methD, Post, mbad])
  | _ => exact absurd h (by simp [methD, Post, mbad])
theorem mt_extendD : MtR X "list.extend" (rMt X.K .extend) := by
  intro pins s σ H x xs v us Q I rx rxs h
  obtain ⟨ρ, G, a, as, S, ra, ras, h⟩ := h
  cases a with
  | loc i =>
    match as, ras, h with
    | [], _, h => exact absurd h (by simp [methD, Post, mbad])
    | [.loc j], ras, h =>
      obtain ⟨w, rfl, rd⟩ := rep1 ras
      unfold Post methD at h
      simp only at h
      cases e : G[i]? with
      | none => simp only [e] at h
      | some o =>
        cases e2 : G[j]? with
        | none => simp only [e, e2] at h
        | some o2 =>
          obtain ⟨ys⟩ := o
          obtain ⟨zs⟩ := o2
          simp only [e, e2] at h
          obtain ⟨p, vs, rfl, h2, h3, h4⟩ := repL2 S ra e
          obtain ⟨p', ws, rfl, h6, h7, h8⟩ := repL2 S rd e2
          by_cases hz : i ≠ j ∧ ys.length + zs.length ≤ sizeLine
          · rw [if_pos hz] at h
            refine mt_extend pins s σ H _ _ v us Q I rx rxs ⟨p, p', vs, ws, rfl, rfl, h3, h7, by rw [h4.length, h8.length]; exact hz.2, ?_⟩
            exact h .non _ ρ (S.write h2 h3 (h4.append h8)) (ext_upd (.inr ⟨_, h3⟩)) rfl
          · rw [if_neg hz] at h; exact h.elim
    | [.non], _, h | [.bl _], _, h | [.int _], _, h | [.str _], _, h | [.tup _], _, h | [.frz _], _, h => exact absurd h (by simp [methD, Post, mbad])
    | _ :: _ :: _, _, h => exact absurd h (by simp [methD, Post, mbad])
  | _ => exact absurd h (by simp [methD, Post, mbad])

theorem flat_rep {ρ : List Addr} {H : Hp} {d : D} {v : V} (f : flatD d = true) (r : RepV K ρ H d v) : flatV v = true := by
  cases d with
  | non => cases repN r; rfl
  | bl _ => cases repB r; rfl
  | int _ => cases repI r; rfl
  | str _ => cases repS r; rfl
  | _ => cases f
theorem flat_eqv {ρ : List Addr} {H : Hp} {d e : D} {v w : V} (fd : flatD d = true) (fe : flatD e = true) (r : RepV K ρ H d v) (q : RepV K ρ H e w) : eqV v w = eqv d e := by
  cases d with
  | non => cases repN r; cases e <;> first | (cases repN q; rfl) | (cases repB q; rfl) | (cases repI q; rfl) | (cases repS q; rfl) | cases fe
  | bl _ => cases repB r; cases e <;> first | (cases repN q; rfl) | (cases repB q; rfl) | (cases repI q; rfl) | (cases repS q; rfl) | cases fe
  | int _ => cases repI r; cases e <;> first | (cases repN q; rfl) | (cases repB q; rfl) | (cases repI q; rfl) | (cases repS q; rfl) | cases fe
  | str _ => cases repS r; cases e <;> first | (cases repN q; rfl) | (cases repB q; rfl) | (cases repI q; rfl) | (cases repS q; rfl) | cases fe
  | _ => cases fd
theorem flats_rep {ρ : List Addr} {H : Hp} : ∀ {ds : List D} {vs : List V}, ds.all flatD = true → RepVs K ρ H ds vs → vs.all flatV = true
  | [], vs, _, r => by rw [show vs = [] from r]; rfl
  | d :: ds, vs, f, r => by
    obtain ⟨v, w, rfl, r1, r2⟩ := r
    simp only [List.all_cons, Bool.and_eq_true] at f ⊢
    exact ⟨flat_rep f.1 r1, flats_rep f.2 r2⟩
theorem mt_indexL : MtR X "list.index" (rMt X.K .index) := by
  intro pins s σ H x xs v us Q I rx rxs h
  obtain ⟨ρ, G, a, as, S, ra, ras, h⟩ := h
  cases a with
  | loc i =>
    match as, ras, h with
    | [], _, h => exact absurd h (by simp [methD, Post, mbad])
    | [d], ras, h =>
      obtain ⟨w, rfl, rd⟩ := rep1 ras
      unfold Post methD at h
      simp only at h
      cases e : G[i]? with
      | none => rw [e] at h; exact h.elim
      | some o =>
        obtain ⟨ys⟩ := o
        rw [e] at h
        simp only at h
        obtain ⟨p, vs, rfl, h2, h3, h4⟩ := repL2 S ra e
        cases ej : ys.findIdx? (fun y => eqv y d) with
        | none => rw [ej] at h; exact h.elim
        | some j =>
          rw [ej] at h
          by_cases hz : flatD d = true ∧ ys.all flatD = true
          · simp only [hz, and_self, if_true] at h
            obtain ⟨hj, hp, hno⟩ := List.findIdx?_eq_some_iff_getElem.mp ej
            obtain ⟨z, hz1, hz2⟩ := h4.get (i := j) (d := ys[j]) (by simp [hj])
            have fl : ∀ (m : Nat) (hm : m < ys.length), flatD ys[m] = true := fun m hm => List.all_eq_true.mp hz.2 _ (List.getElem_mem hm)
            refine mt_index pins s σ H _ _ v us Q I rx rxs ⟨p, vs, w, j, z, rfl, rfl, SqL.of h3, flat_rep hz.1 rd, flats_rep hz.2 h4, hz1, ?_, fun m z' hm hz' => ?_, ?_⟩
            · rw [flat_eqv (fl j hj) hz.1 hz2 rd]; exact hp
            · obtain ⟨d', hd1, hd2⟩ := h4.getV hz'
              obtain ⟨hm', e'⟩ := List.getElem?_eq_some_iff.mp hd1
              subst e'
              rw [flat_eqv (fl m hm') hz.1 hd2 rd]
              simpa using hno m hm
            · exact Want.int (show Want X.K ρ H Q (.int (j : Nat)) G from h) S
          · simp only [hz, if_false] at h
    | _ :: _ :: _, _, h => exact absurd h (by simp [methD, Post, mbad])
  | _ => exact absurd h (by simp [methD, Post, mbad])
end
end OC

/-! Part 3: expressions: what is checked of the text, and that the model does what the meaning says. -/
namespace OC
open PySem PySem.Spec PyProof.Rows L2

/-! ### nothing is raised by the operations -/
theorem NoX.getL (d : D) : NoX (getL d) := fun G c f G' h => by
  unfold OC.getL at h
  split at h
  · cases h
  · split at h <;> cases h
  · cases h
theorem NoX.getS (d : D) : NoX (getS d) := by
  cases d with
  | tup xs => exact fun G c f G' h => nomatch h
  | non => exact fun G c f G' h => NoX.getL .non G c f G' h
  | bl b => exact fun G c f G' h => NoX.getL (.bl b) G c f G' h
  | int b => exact fun G c f G' h => NoX.getL (.int b) G c f G' h
  | str b => exact fun G c f G' h => NoX.getL (.str b) G c f G' h
  | frz b => exact fun G c f G' h => NoX.getL (.frz b) G c f G' h
  | loc b => exact fun G c f G' h => NoX.getL (.loc b) G c f G' h
theorem NoX.newL (xs : List D) : NoX (newL xs) := fun G c f G' h => by
  unfold OC.newL at h
  split at h <;> cases h
theorem NoX.mkT (xs : List D) : NoX (mkT xs) := by
  unfold OC.mkT
  exact NoX.ite (NoX.mret _) NoX.mbad
theorem NoX.eqD (a b : D) : NoX (eqD a b) := fun G c f G' h => by
  unfold OC.eqD at h
  split at h <;> cases h
theorem NoX.inD (a b : D) : NoX (inD a b) := (NoX.getS b).bind fun p => fun G c f G' h => by
  split at h <;> cases h
theorem NoX.opD (o : Op2) (a b : D) : NoX (opD o a b) := by
  unfold OC.opD
  split
  · exact NoX.mret _
  · exact NoX.mret _
  · exact NoX.ite (NoX.mret _) NoX.mbad
  · exact NoX.ite (NoX.mret _) NoX.mbad
  · intro G c f G' h
    simp only at h
    split at h
    · split at h
      · exact NoX.newL _ _ _ _ _ h
      · cases h
    · cases h
  · exact NoX.ite (NoX.mret _) NoX.mbad
  · exact NoX.ite (NoX.mret _) NoX.mbad
  · exact NoX.ite (NoX.mret _) NoX.mbad
  · exact NoX.mkT _
  · intro G c f G' h
    simp only at h
    split at h
    · exact NoX.newL _ _ _ _ _ h
    · cases h
  · exact NoX.mbad
theorem NoX.cmpD (o : Cmp) (a b : D) : NoX (cmpD o a b) := by
  cases o with
  | lt => show NoX (match a, b with | .int i, .int j => OC.mret (D.bl (decide (i < j))) | _, _ => OC.mbad); split <;> first | exact NoX.mret _ | exact NoX.mbad
  | le => show NoX (match a, b with | .int i, .int j => OC.mret (D.bl (decide (i ≤ j))) | _, _ => OC.mbad); split <;> first | exact NoX.mret _ | exact NoX.mbad
  | gt => show NoX (match a, b with | .int i, .int j => OC.mret (D.bl (decide (j < i))) | _, _ => OC.mbad); split <;> first | exact NoX.mret _ | exact NoX.mbad
  | ge => show NoX (match a, b with | .int i, .int j => OC.mret (D.bl (decide (j ≤ i))) | _, _ => OC.mbad); split <;> first | exact NoX.mret _ | exact NoX.mbad
  | eq => exact (NoX.eqD a b).bind fun _ => NoX.mret _
  | ne => exact (NoX.eqD a b).bind fun _ => NoX.mret _
  | isin => exact (NoX.inD a b).bind fun _ => NoX.mret _
  | notin => exact (NoX.inD a b).bind fun _ => NoX.mret _
  | is => unfold OC.cmpD; simp only; split; (exact NoX.mret _); (split <;> first | exact NoX.mret _ | exact NoX.mbad); exact NoX.mbad
  | isnot => unfold OC.cmpD; simp only; split; (exact NoX.mret _); (split <;> first | exact NoX.mret _ | exact NoX.mbad); exact NoX.mbad
theorem NoX.idxD (a b : D) : NoX (idxD a b) := by
  unfold OC.idxD
  split
  · refine (NoX.getS a).bind fun xs => ?_
    unfold atD
    split
    · exact NoX.mret _
    · exact NoX.mbad
  · exact NoX.mbad
theorem NoX.kidxD (t : List (D × D)) (b : D) : NoX (kidxD t b) := by
  unfold OC.kidxD
  split
  · exact NoX.mret _
  · exact NoX.mbad
theorem NoX.sliceD (a : D) (lo hi : Option Int) : NoX (sliceD a lo hi) := fun G c f G' h => by
  unfold OC.sliceD at h
  split at h
  · cases h
  · exact NoX.newL _ _ _ _ _ h
  · split at h
    · exact NoX.newL _ _ _ _ _ h
    · cases h
  · cases h
theorem NoX.revD (a : D) : NoX (revD a) := fun G c f G' h => by
  unfold OC.revD at h
  split at h <;> cases h
theorem NoX.biD (b : Bi) (vs : List D) : NoX (biD b vs) := by
  unfold OC.biD
  split
  · exact (NoX.getS _).bind fun _ => NoX.mret _
  · exact NoX.mret _
  · exact NoX.mret _
  · exact NoX.mret _
  · refine (NoX.getL _).bind fun _ => ?_
    split
    · exact NoX.mret _
    · exact NoX.mbad
  · refine (NoX.getL _).bind fun _ => ?_
    split
    · exact NoX.mret _
    · exact NoX.mbad
  · refine (NoX.getL _).bind fun _ => ?_
    split
    · exact NoX.mret _
    · exact NoX.mbad
  · exact (NoX.getS _).bind fun _ => NoX.mret _
  · exact (NoX.getS _).bind fun _ => NoX.newL _
  · exact NoX.mret _
  · exact NoX.mret _
  · exact NoX.mret _
  · intro G c f G' h
    simp only at h
    split at h <;> cases h
  · exact NoX.mbad
theorem NoX.isinD (a : D) (ts : List Ty) : NoX (isinD a ts) := fun G c f G' h => by
  unfold OC.isinD at h
  split at h <;> cases h
theorem NoX.methD (m : Mt) (o : D) (vs : List D) : NoX (methD m o vs) := by
  unfold OC.methD
  split
  · intro G c f G' h
    simp only at h
    split at h
    · split at h <;> cases h
    · cases h
  · intro G c f G' h
    simp only at h
    split at h
    · split at h <;> cases h
    · cases h
  · intro G c f G' h
    simp only at h
    split at h
    · split at h
      · split at h <;> cases h
      · cases h
    · cases h
  · exact NoX.mbad
theorem NoX.seqI (d : D) : NoX (seqI d) := fun G c f G' h => by
  unfold OC.seqI at h
  split at h
  · cases h
  · cases h
  · split at h <;> cases h
  · cases h

/-! ### the slots -/
variable {K : PySem.W.Frag} {mg : Str → Option Value}
structure RepS (K : PySem.W.Frag) (ρ : List Addr) (H : Hp) (dσ : Env') (σ : L2.St) : Prop where
  len : dσ.length = σ.length
  get : ∀ (i : Nat) (d : D), dσ[i]? = some (some d) → ∃ v, σ[i]? = some (some v) ∧ RepV K ρ H d v
theorem RepS.ext {ρ ρ' : List Addr} {H H' : Hp} {dσ : Env'} {σ : L2.St} (h : RepS K ρ H dσ σ) (e : Ext K ρ H ρ' H') : RepS K ρ' H' dσ σ :=
  ⟨h.len, fun i d q => let ⟨v, h1, h2⟩ := h.get i d q; ⟨v, h1, h2.ext e⟩⟩
theorem RepS.set {ρ : List Addr} {H : Hp} {dσ : Env'} {σ : L2.St} (h : RepS K ρ H dσ σ) {i : Nat} {d : D} {v : V} (r : RepV K ρ H d v) : RepS K ρ H (dσ.set i (some d)) (σ.set i (some v)) := by
  refine ⟨by simp [h.len], fun j e q => ?_⟩
  by_cases hj : i = j
  · subst hj
    by_cases hl : i < dσ.length
    · rw [List.getElem?_set_self hl] at q
      cases q
      exact ⟨v, by rw [List.getElem?_set_self (by rw [← h.len]; exact hl)], r⟩
    · rw [List.getElem?_eq_none (by simpa using Nat.le_of_not_lt hl)] at q
      cases q
  · rw [List.getElem?_set_ne hj] at q
    obtain ⟨w, h1, h2⟩ := h.get j e q
    exact ⟨w, by rw [List.getElem?_set_ne hj]; exact h1, h2⟩
theorem RepS.unset {ρ : List Addr} {H : Hp} {dσ : Env'} {σ : L2.St} (h : RepS K ρ H dσ σ) {i : Nat} : RepS K ρ H (dσ.set i none) (σ.set i none) := by
  refine ⟨by simp [h.len], fun j e q => ?_⟩
  by_cases hj : i = j
  · subst hj
    by_cases hl : i < dσ.length
    · rw [List.getElem?_set_self hl] at q
      cases q
    · rw [List.getElem?_eq_none (by simpa using Nat.le_of_not_lt hl)] at q
      cases q
  · rw [List.getElem?_set_ne hj] at q
    obtain ⟨w, h1, h2⟩ := h.get j e q
    exact ⟨w, by rw [List.getElem?_set_ne hj]; exact h1, h2⟩
theorem RepS.wipe {ρ : List Addr} {H : Hp} {dσ : Env'} {σ : L2.St} (h : RepS K ρ H dσ σ) : ∀ vs : List Nat, RepS K ρ H (wipeD dσ vs) (L2.wipe σ vs)
  | [] => h
  | v :: vs => (RepS.wipe h vs).unset

/-! ### what is wanted -/
/-- an exception in the air -/
structure RepX (K : PySem.W.Frag) (mg : Str → Option Value) (ρ : List Addr) (H : Hp) (c : Str) (f : Option D) (cls : Value) (d : Option Addr) : Prop where
  cls : ∃ C, mg c = some (.ref C) ∧ cls = .ref C
  fld : ∀ x, f = some x → ∃ dd nm v y, x = .tup [.str nm, y] ∧ d = some dd ∧ H dd = some (.xd [(nm, v)]) ∧ RepV K ρ H y v
abbrev ExW (K : PySem.W.Frag) (mg : Str → Option Value) (W : WX) (σ : L2.St) (ρ : List Addr) (H : Hp) : Str → Option D → GH → Prop :=
  fun c f G' => ∀ cls d H' ρ', Sto K ρ' G' H' → Ext K ρ H ρ' H' → RepX K mg ρ' H' c f cls d → W cls d σ H'
theorem Want.up {ρ ρ1 : List Addr} {H H1 : Hp} {Q : VK} {d : D} {G : GH} (e : Ext K ρ H ρ1 H1) (h : Want K ρ H Q d G) : Want K ρ1 H1 Q d G := fun v H' ρ' S x r => h v H' ρ' S (e.trans x) r
theorem ExW.up {ρ ρ1 : List Addr} {H H1 : Hp} {W : WX} {σ : L2.St} {c : Str} {f : Option D} {G : GH} (e : Ext K ρ H ρ1 H1) (h : ExW K mg W σ ρ H c f G) : ExW K mg W σ ρ1 H1 c f G := fun cls d H' ρ' S x r => h cls d H' ρ' S (e.trans x) r
/-- a step's readings -/
def tI (K : PySem.W.Frag) (mg : Str → Option Value) (W : WX) (m : Env' → M D) : TE := fun σ H Q => ∃ ρ G dσ, Sto K ρ G H ∧ RepS K ρ H dσ σ ∧ Post (m dσ) G (Want K ρ H Q) (ExW K mg W σ ρ H)
def tT (K : PySem.W.Frag) (mg : Str → Option Value) (W : WX) (m : Env' → M D) : TT := fun σ H Q => ∃ ρ G dσ, Sto K ρ G H ∧ RepS K ρ H dσ σ ∧
  Post (m dσ) G (fun d G' => ∃ b, d = .bl b ∧ ∀ H' ρ', Sto K ρ' G' H' → Ext K ρ H ρ' H' → Q b H') (ExW K mg W σ ρ H)
def tIs (K : PySem.W.Frag) (mg : Str → Option Value) (W : WX) (m : Env' → M (List D)) : TA := fun σ H Q => ∃ ρ G dσ, Sto K ρ G H ∧ RepS K ρ H dσ σ ∧
  Post (m dσ) G (fun ds G' => ∀ vs H' ρ', Sto K ρ' G' H' → Ext K ρ H ρ' H' → RepVs K ρ' H' ds vs → Q vs H') (ExW K mg W σ ρ H)
def tO (K : PySem.W.Frag) (mg : Str → Option Value) (W : WX) (m : Env' → M (Option Int)) : TO := fun σ H Q => ∃ ρ G dσ, Sto K ρ G H ∧ RepS K ρ H dσ σ ∧
  Post (m dσ) G (fun o G' => ∀ H' ρ', Sto K ρ' G' H' → Ext K ρ H ρ' H' → Q o H') (ExW K mg W σ ρ H)
section
variable {W : WX} {m : Env' → M D} {ms : Env' → M (List D)} {mo : Env' → M (Option Int)} {σ : L2.St} {ρ ρ0 : List Addr} {H H0 : Hp} {G : GH} {dσ : Env'}
theorem tI_of {ok : D → GH → Prop} {Q : VK} (S : Sto K ρ G H) (hs : RepS K ρ H dσ σ) (e0 : Ext K ρ0 H0 ρ H) (h : Post (m dσ) G ok (ExW K mg W σ ρ0 H0))
    (k : ∀ d G' v H' ρ', ok d G' → Sto K ρ' G' H' → Ext K ρ H ρ' H' → RepV K ρ' H' d v → Q v H') : tI K mg W m σ H Q :=
  ⟨ρ, G, dσ, S, hs, h.mono (fun d G1 q v H' ρ' S' e r => k d G1 v H' ρ' q S' e r) fun c f G1 q => ExW.up e0 q⟩
theorem tT_of {ok : D → GH → Prop} {Q : Bool → Hp → Prop} (S : Sto K ρ G H) (hs : RepS K ρ H dσ σ) (e0 : Ext K ρ0 H0 ρ H) (h : Post (m dσ) G ok (ExW K mg W σ ρ0 H0))
    (kb : ∀ d G', ok d G' → ∃ b, d = .bl b) (k : ∀ b G' H' ρ', ok (.bl b) G' → Sto K ρ' G' H' → Ext K ρ H ρ' H' → Q b H') : tT K mg W m σ H Q :=
  ⟨ρ, G, dσ, S, hs, h.mono (fun d G1 q => by
    obtain ⟨b, rfl⟩ := kb d G1 q
    exact ⟨b, rfl, fun H' ρ' S' e => k b G1 H' ρ' q S' e⟩) fun c f G1 q => ExW.up e0 q⟩
theorem tIs_of {ok : List D → GH → Prop} {Q : List V → Hp → Prop} (S : Sto K ρ G H) (hs : RepS K ρ H dσ σ) (e0 : Ext K ρ0 H0 ρ H) (h : Post (ms dσ) G ok (ExW K mg W σ ρ0 H0))
    (k : ∀ d G' v H' ρ', ok d G' → Sto K ρ' G' H' → Ext K ρ H ρ' H' → RepVs K ρ' H' d v → Q v H') : tIs K mg W ms σ H Q :=
  ⟨ρ, G, dσ, S, hs, h.mono (fun d G1 q v H' ρ' S' e r => k d G1 v H' ρ' q S' e r) fun c f G1 q => ExW.up e0 q⟩
theorem tO_of {ok : Option Int → GH → Prop} {Q : Option Int → Hp → Prop} (S : Sto K ρ G H) (hs : RepS K ρ H dσ σ) (e0 : Ext K ρ0 H0 ρ H) (h : Post (mo dσ) G ok (ExW K mg W σ ρ0 H0))
    (k : ∀ o G' H' ρ', ok o G' → Sto K ρ' G' H' → Ext K ρ H ρ' H' → Q o H') : tO K mg W mo σ H Q :=
  ⟨ρ, G, dσ, S, hs, h.mono (fun d G1 q H' ρ' S' e => k d G1 H' ρ' q S' e) fun c f G1 q => ExW.up e0 q⟩
end
theorem pe_imp {X : Cx} {e : Expr} {t t' : TE} (h : PE X e t) (k : ∀ σ H Q, t' σ H Q → t σ H Q) : PE X e t' := ⟨fun pins s σ H Q I q => h.run pins s σ H Q I (k σ H Q q)⟩
theorem pt_imp {X : Cx} {e : Expr} {t t' : TT} (h : PT X e t) (k : ∀ σ H Q, t' σ H Q → t σ H Q) : PT X e t' := ⟨fun pins s σ H Q I q => h.run pins s σ H Q I (k σ H Q q)⟩
theorem pa_imp {X : Cx} {es : List Expr} {t t' : TA} (h : PA X es t) (k : ∀ σ H Q, t' σ H Q → t σ H Q) : PA X es t' := ⟨fun pos pins s σ H Q I q => h.run pos pins s σ H Q I (k σ H Q q)⟩
theorem ps_imp {X : Cx} {st : Stmt} {t t' : TS} (h : PS X st t) (k : ∀ Dn σ H, t' Dn σ H → t Dn σ H) : PS X st t' := ⟨fun pins s σ H Dn I q => h.run pins s σ H Dn I (k Dn σ H q)⟩
theorem pss_imp {X : Cx} {st : List Stmt} {t t' : TS} (h : PSs X st t) (k : ∀ Dn σ H, t' Dn σ H → t Dn σ H) : PSs X st t' := ⟨fun pins s σ H Dn I q => h.run pins s σ H Dn I (k Dn σ H q)⟩
/-- the test by the value -/
theorem tT_tB {W : WX} {m : Env' → M D} {σ : L2.St} {H : Hp} {Q : Bool → Hp → Prop} (h : tT K mg W m σ H Q) : tB (tI K mg W m) σ H Q := by
  obtain ⟨ρ, G, dσ, S, hs, h⟩ := h
  refine tI_of S hs Ext.refl h fun d G' v H' ρ' q S' e r => ?_
  obtain ⟨b, rfl, q⟩ := q
  exact ⟨b, repB r, q H' ρ' S' e⟩
end OC

namespace OC
open PySem PySem.Spec PyProof.Rows L2

/-! ### what is checked -/
structure Tab where
  fns : List (Str × List Str)
  gls : List (Str × D)
  kds : List (Str × List (D × D))
  excs : List Str
  kws : List (Nat × Nat × List Nat)
  exf : List (Str × Str) := []
structure SC where
  sc : Scope
  fnB : Str → Bool
  N : List Str
  calm : Bool
  top : Bool
def SC.blk (C : SC) (scope : Scope) : SC := { sc := relS scope C.sc, fnB := fun x => scope.names.lookup x == some .cell, N := C.N, calm := C.calm, top := false }

def notStar : Expr → Bool
  | .Starred _ _ => false
  | _ => true
def notSlice : Expr → Bool
  | .Slice _ _ _ _ => false
  | _ => true
def kindB (sc : Scope) (x : Str) (k : NameKind) : Bool := sc.names.lookup x == some k
def glB (sc : Scope) (x : Str) : Bool := kindB sc x .globalImplicit && !(x == ("__debug__" : Str)) && !(x == ("__name__" : Str))
def visB (sc : Scope) (x : Str) : Bool := (kindB sc x .local || kindB sc x .cell || kindB sc x .free) && !(x == ("__debug__" : Str)) && !(x == ("__classdict__" : Str))
def stoB (C : SC) (x : Str) : Bool := kindB C.sc x .local || (kindB C.sc x .cell && C.fnB x)
def biN : Bi → Str
  | .len => "len" | .abs => "abs" | .int => "int" | .sum => "sum" | .all => "all" | .any => "any" | .tuple => "tuple" | .list => "list" | .max2 => "max" | .min2 => "min" | .gcd => "gcd" | .repr => "repr"
  | .max1 => "max" | .min1 => "min"
def biC : Bi → Bool
  | .sum | .all | .any | .max2 | .min2 => true
  | _ => false
def biOk : Bi → Bool
  | .max1 | .min1 => false
  | _ => true
def mtN : Mt → Str
  | .append => "append" | .extend => "extend" | .index => "index"
def tyS (t : Ty) : Str := Str.ofString (tyN t)
def ckTy (sc : Scope) : List Ty → Expr → Bool
  | [t], .Name x _ => x == tyS t && glB sc x
  | ts, .Tuple es _ _ => go ts es && decide (2 ≤ ts.length ∧ ts.length ≤ 9)
  | _, _ => false
where
  go : List Ty → List Expr → Bool
    | [], [] => true
    | t :: ts, .Name x _ :: es => x == tyS t && glB sc x && go ts es
    | _, _ => false
def ckT (C : SC) : IT → Expr → Bool
  | .nm i => fun e => match e with
    | .Name x _ => (match C.N[i]? with | some y => y == x | none => false) && stoB C x
    | _ => false
  | .tup is => fun e => match e with
    | .Tuple es _ _ => C.calm && go is es && decide (is.Nodup)
    | _ => false
where
  go : List Nat → List Expr → Bool
    | [], [] => true
    | i :: is, .Name x _ :: es => (match C.N[i]? with | some y => y == x | none => false) && stoB C x && go is es
    | _, _ => false
def itSlots : IT → List Nat
  | .nm i => [i]
  | .tup is => is
def simpleB : Expr → Bool
  | .Name _ _ => true
  | .Subscript _ _ _ => true
  | _ => false
/-- how the keywords stand: each one's parameter -/
def ckKw (ps : List Str) : List Nat → List Keyword → Bool
  | [], [] => true
  | i :: is, ⟨some x, _, _⟩ :: ks => (match ps[i]? with | some y => y == x | none => false) && ckKw ps is ks
  | _, _ => false
def opB (o : Op2) (p : Operator) : Bool := decide (opOf o = p)
def cmpB (o : Cmp) (p : CmpOp) : Bool := decide (cmpOf o = p)

mutual
def ckE (T : Tab) (C : SC) : IE → Expr → Bool
  | .k d => fun e => match d, e with
    | .int i, .Constant (.int j) _ _ => decide (i = j)
    | .bl i, .Constant (.bool j) _ _ => decide (i = j)
    | .non, .Constant .none _ _ => true
    | .str i, .Constant (.str j) _ _ => decide (i = j)
    | _, _ => false
  | .v i => fun e => match e with
    | .Name x _ => (match C.N[i]? with | some y => y == x | none => false) && visB C.sc x
    | _ => false
  | .gl y d => fun e => match e with
    | .Name x _ => y == x && glB C.sc x && T.gls.contains (x, d)
    | _ => false
  | .tup es => fun e => match e with
    | .Tuple xs _ _ => ckEs T C es xs
    | _ => false
  | .lst es => fun e => match e with
    | .List xs _ => ckEs T C es xs
    | _ => false
  | .op o a b => fun e => match e with
    | .BinOp l p r _ => opB o p && ckE T C a l && ckE T C b r
    | _ => false
  | .neg a => fun e => match e with
    | .UnaryOp .USub l _ => ckE T C a l
    | _ => false
  | .not a => fun e => match e with
    | .UnaryOp .Not l _ => ckE T C a l
    | _ => false
  | .bool w es => fun e => match e with
    | .BoolOp p xs _ => decide (p = if w then .And else .Or) && ckEs T C es xs
    | _ => false
  | .cmp o a b => fun e => match e with
    | .Compare l [p] [r] _ => cmpB o p && !behindInMarks p r && ckE T C a l && ckE T C b r
    | _ => false
  | .ife t a b => fun e => match e with
    | .IfExp u l r _ => ckE T C t u && ckE T C a l && ckE T C b r
    | _ => false
  | .idx a b => fun e => match e with
    | .Subscript l r _ => notSlice r && ckE T C a l && ckE T C b r
    | _ => false
  | .kidx y tbl b => fun e => match e with
    | .Subscript (.Name x _) r _ => y == x && glB C.sc x && notSlice r && T.kds.contains (x, tbl) && ckE T C b r
    | _ => false
  | .slice a lo hi => fun e => match e with
    | .Subscript l (.Slice u v none _) _ => ckE T C a l && ckO T C lo u && ckO T C hi v
    | _ => false
  | .rev a => fun e => match e with
    | .Subscript l (.Slice none none (some (.UnaryOp .USub (.Constant (.int 1) _ _) _)) _) _ => ckE T C a l
    | _ => false
  | .tupR a => fun e => match e with
    | .Call (.Name x _) [.Call (.Name y _) [l] [] _] [] _ => C.calm && x == ("tuple" : Str) && glB C.sc x && y == ("range" : Str) && glB C.sc y && notStar l && ckE T C a l
    | _ => false
  | .call f es kws kes => fun e => match e with
    | .Call (.Name x _) args ks _ => C.calm && glB C.sc x && (match T.fns[f]? with
      | some (y, ps) => y == x && (match kws with
        | [] => (match ks with | [] => true | _ => false) && ckEs T C es args && decide (0 < args.length)
        | _ => T.kws.contains (f, args.length, kws) && ckKw ps kws ks && ckEs T C es args && ckEs T C kes (ks.map (·.value)))
      | none => false)
    | _ => false
  | .bi b es => fun e => match e with
    | .Call (.Name x _) args [] _ => x == biN b && glB C.sc x && biOk b && (!biC b || C.calm) && decide (0 < args.length) && ckEs T C es args
    | _ => false
  | .isin a ts => fun e => match e with
    | .Call (.Name x _) [l, r] [] _ => x == ("isinstance" : Str) && glB C.sc x && ckE T C a l && ckTy C.sc ts r
    | _ => false
  | .meth m o es => fun e => match e with
    | .Call (.Attribute l x apos) args [] cpos => x == mtN m && simpleB l && decide (apos.endLine = cpos.line) && decide (0 < args.length ∧ args.length < 20) && ckE T C o l && ckEs T C es args
    | _ => false
  | .comp own elt t it cond => fun e => match e with
    | .ListComp el [⟨tg, iter, ifs, 0⟩] scope _ => C.calm && blkC C.N C.sc scope own && decide (∀ i ∈ itSlots t, i ∈ own.map (·.2)) && ckI T C it tg iter && ckT (C.blk scope) t tg && ckE T (C.blk scope) elt el &&
      (match ifs with
        | [] => (match cond with | .none => true | _ => false)
        | [c] => (match cond with | .some _ => true | _ => false) && ckO T (C.blk scope) cond (some c)
        | _ => false)
    | _ => false
def ckEs (T : Tab) (C : SC) : IEs → List Expr → Bool
  | .nil => fun xs => match xs with
    | [] => true
    | _ => false
  | .cons e es => fun xs => match xs with
    | x :: xs => notStar x && ckE T C e x && ckEs T C es xs
    | _ => false
def ckO (T : Tab) (C : SC) : IO → Option Expr → Bool
  | .none => fun o => match o with
    | none => true
    | _ => false
  | .some e => fun o => match o with
    | some x => ckE T C e x
    | _ => false
def ckI (T : Tab) (C : SC) : II → Expr → Expr → Bool
  | .sq a => fun _ e => (match e with | .Set _ _ _ => false | _ => true) && ckE T C a e
  | .rng1 a => fun _ e => match e with
    | .Call (.Name x _) [l] [] _ => x == ("range" : Str) && glB C.sc x && notStar l && ckE T C a l
    | _ => false
  | .rng2 a b => fun _ e => match e with
    | .Call (.Name x _) [l, r] [] _ => x == ("range" : Str) && glB C.sc x && notStar l && notStar r && ckE T C a l && ckE T C b r
    | _ => false
  | .enm a => fun tg e => match tg, e with
    | .Tuple _ _ _, .Call (.Name x _) [l] [] _ => x == ("enumerate" : Str) && glB C.sc x && notStar l && ckE T C a l
    | _, _ => false
  | .zip a b => fun tg e => match tg, e with
    | .Tuple _ _ _, .Call (.Name x _) [l, r] [] _ => x == ("zip" : Str) && glB C.sc x && notStar l && notStar r && ckE T C a l && ckE T C b r
    | _, _ => false
end

/-! ### the facts of a context -/
/-- a def's promise: what the meaning says -/
def spOf (K : PySem.W.Frag) (mg : Str → Option Value) (c : List D → M D) (np : Nat) : Sp := fun vs H Q E => ∃ ρ G ds, Sto K ρ G H ∧ RepVs K ρ H ds vs ∧ ds.length = np ∧
  Post (c ds) G (Want K ρ H Q) (fun x f G' => ∀ cls d H' ρ', Sto K ρ' G' H' → Ext K ρ H ρ' H' → RepX K mg ρ' H' x f cls d → E cls d H')
/-- a dict of the top, read -/
def KDrule (prog : Program) (w : World) (K : PySem.W.Frag) (a : Addr) (tbl : List (D × D)) : Prop :=
  ∀ (X : Cx), X.prog = prog → X.w = w → X.K = K → X.A.units + 70 < cLine → ∀ (pins : List (Addr × Obj)) (s : Shared) (σ : L2.St) (H : Hp) (y : V) (u : Value) (Q : VK), Inv X pins σ H s → RelV y u →
    (∃ ρ G b, Sto K ρ G H ∧ RepV K ρ H b y ∧ Post (kidxD tbl b) G (Want K ρ H Q) noex) →
    s.TypeIs (.ref a) "dict" ∧ wpAny (model X.prog X.w) X.A (getItem (.ref a) u) (EP X pins σ Q) X.xe s
abbrev blts : List Str := ["len", "abs", "int", "sum", "all", "any", "tuple", "list", "max", "min", "isinstance", "bool", "str", "range", "zip", "enumerate", "repr", "ValueError"]
/-- a def of the text, run where no text of an object is being made -/
structure FnG (P : Program) (w : World) (K : PySem.W.Frag) (mg : Str → Option Value) (base : Heap) (CX : CXT) (k : Nat) (f : Addr) (fd : FuncData) (ps : List Str) (sp : Sp) : Prop where
  len : ∀ vs H Q E, sp vs H Q E → vs.length = ps.length
  run : ∀ (A : Around) (outer : List Env) (s : Shared) (H : Hp) (args : Args) (us : List Value) (vs : List V) (Q : VK) (E : XK), A.guards = some [] → Room k A → Env0 P w K mg base A outer s H → BindsTo s fd args (ps.zip us) → Vals vs us →
    sp vs H Q E → codeAny (model P w) A (.call (.ref f) args) (CR CX outer P w H s Q E) s
/-- the promise of the __init__ of an own exception with one field -/
def spInit (K : PySem.W.Frag) (C : Addr) (fl : Str) : Sp := fun vs H Q _ => ∃ (a : Addr) (v : V) (p : PyData), vs = [.ref a, v] ∧ H a = some (exo a C none) ∧ Dp K H v p ∧ p.showable = true ∧ p.plain = true ∧ p.depth ≤ 30 ∧ p.shown.length + 1000 ≤ sizeLine ∧ (∀ x, p ≠ .str x) ∧
  ∀ dx, H dx = none → dx ≠ a → Q .non (upd (upd H dx (exd dx [(fl, v)])) a (exo a C (some dx)))
/-- an own exception with one field -/
structure ExfOk (prog : Program) (w : World) (K : PySem.W.Frag) (mg : Str → Option Value) (base : Heap) (x fl : Str) (C : Addr) : Prop where
  gl : mg x = some (.ref C)
  oc : OexC K C
  xf : XfC K C
  no : PySem.W.findIn K (.ref C) fl = some none
  ini : ∃ (fI : Addr) (fd : FuncData), PySem.W.findIn K (.ref C) "__init__" = some (some (.ref fI)) ∧ PySem.W.typeIn K (.ref fI) = some (.type "function") ∧ FnG prog w K mg base (L2.CX prog w) 2 fI fd ["self", fl] (spInit K C fl) ∧ Binds K fd ["self", fl] []
/-- what stands for the whole run -/
structure GF (P : Prg) (T : Tab) (prog : Program) (w : World) (K : PySem.W.Frag) (mg : Str → Option Value) (base : Heap) : Prop where
  tab : ∀ (i : Nat) (p : Str × List Str), T.fns[i]? = some p → ∃ fn : Fn, P[i]? = some fn ∧ fn.name = p.1 ∧ fn.params = p.2
  blt : ∀ x ∈ blts, mg x = none
  gcd : mg "gcd" = some (.builtin "math.gcd")
  gls : ∀ x d, (x, d) ∈ T.gls → ∃ v u, mg x = some u ∧ RelV v u ∧ ∀ ρ H, RepV K ρ H d v
  kds : ∀ x tbl, (x, tbl) ∈ T.kds → ∃ a, mg x = some (.ref a) ∧ KDrule prog w K a tbl
  exf : ∀ x fl, (x, fl) ∈ T.exf → ∃ C, ExfOk prog w K mg base x fl C
  exn : ∀ x ∈ T.excs, ∃ (E : Addr), mg x = some (.ref E) ∧ PySem.W.keepIn K (.ref E) = true ∧ PySem.W.subIn K (.ref E) (.type "BaseException") = some true ∧ PySem.W.typeIn K (.ref E) = some (.type "type")
  exc : ∀ x ∈ T.excs, (∀ fl, (x, fl) ∉ T.exf) → ∃ (E : Addr) (bmB : List Value) (B newId initId : String), ExcBaseFacts B newId initId bmB ∧ PySem.W.excIn K E bmB newId = true ∧ mg x = some (.ref E) ∧ PySem.W.keepIn K (.ref E) = true ∧
    PySem.W.subIn K (.ref E) (.type "BaseException") = some true ∧ PySem.W.typeIn K (.ref E) = some (.type "type")
  exm : ∀ x ∈ T.excs, ∀ y ∈ T.excs, ∀ (E F : Addr), mg x = some (.ref E) → mg y = some (.ref F) → PySem.W.exmOne K (.ref E) (.ref F) = some (decide (y = x))
structure FF (P : Prg) (T : Tab) (n : Nat) (prog : Program) (w : World) (K : PySem.W.Frag) (mg : Str → Option Value) (base : Heap) : Prop where
  fn : ∀ (i : Nat) (fn : Fn), P[i]? = some fn → ∃ f fd, mg fn.name = some (.ref f) ∧ PySem.W.keepIn K (.ref f) = true ∧
    FnG prog w K mg base (L2.CX prog w) (n + 3) f fd fn.params (spOf K mg (callN P n i) fn.params.length) ∧ Binds K fd fn.params [] ∧
    ∀ (np : Nat) (kws : List Nat), (i, np, kws) ∈ T.kws → ∀ (ks : List Str), kws.map (fun j => fn.params[j]?) = ks.map some → ∀ (s : Shared) (us ws zs : List Value), K.In s.heap → us.length = np → ws.length = kws.length →
      reorder kws us ws = some zs → BindsTo s fd ⟨us, ks.zip ws⟩ (fn.params.zip zs)
structure SX (P : Prg) (T : Tab) (n : Nat) (C : SC) (X : Cx) : Prop where
  gf : GF P T X.prog X.w X.K X.mg X.base
  ff : FF P T n X.prog X.w X.K X.mg X.base
  scope : X.env.scope = C.sc
  N : X.N = C.N
  nd : C.N.Nodup
  fnb : ∀ x, C.fnB x = true → X.fn x = true
  calm : C.calm = true → X.calm = true ∧ Room (n + 3) X.A
  units : X.A.units + 200 < cLine
  guards : X.A.guards = some []
  top : C.top = true → X.stack = X.env :: X.outer ∧ X.env.frame = some X.env.locals
  po : PassesOwn (model X.prog X.w) X.A X.env X.xe
section
variable {P : Prg} {T : Tab} {n : Nat} {C : SC} {X : Cx}
theorem SX.nd' (h : SX P T n C X) : X.N.Nodup := by rw [h.N]; exact h.nd
theorem SX.gl (h : SX P T n C X) {x : Str} (g : glB C.sc x = true) : Gl X x ∧ (x == ("__debug__" : Str)) = false ∧ x ≠ "__name__" := by
  unfold glB kindB at g
  simp only [Bool.and_eq_true, Bool.not_eq_true', beq_iff_eq] at g
  refine ⟨?_, g.1.2, fun e => ?_⟩
  · show X.env.scope.names.lookup x = some .globalImplicit
    rw [h.scope]; exact g.1.1
  · rw [e] at g; simp at g
theorem SX.vis (h : SX P T n C X) {x : Str} (g : visB C.sc x = true) : Vis X.env.scope x ∧ (x == ("__debug__" : Str)) = false ∧ (x == ("__classdict__" : Str)) = false := by
  unfold visB kindB at g
  simp only [Bool.and_eq_true, Bool.or_eq_true, Bool.not_eq_true', beq_iff_eq] at g
  refine ⟨?_, g.1.2, g.2⟩
  unfold Vis
  rw [h.scope]
  rcases g.1.1 with (q | q) | q
  · exact .inl q
  · exact .inr (.inl q)
  · exact .inr (.inr q)
theorem SX.sto (h : SX P T n C X) {x : Str} (g : stoB C x = true) : L2.Loc X.env.scope x ∧ (X.fn x = true ∨ X.env.scope.names.lookup x = some .local) := by
  unfold stoB kindB at g
  simp only [Bool.or_eq_true, Bool.and_eq_true, beq_iff_eq] at g
  unfold L2.Loc
  rw [h.scope]
  rcases g with q | q
  · exact ⟨.inl q, .inr q⟩
  · exact ⟨.inr q.1, .inl (h.fnb x q.2)⟩
theorem SX.at (h : SX P T n C X) {i : Nat} {x : Str} (g : (match C.N[i]? with | some y => y == x | none => false) = true) : X.N[i]? = some x := by
  rw [h.N]
  cases e : C.N[i]? with
  | none => rw [e] at g; cases g
  | some y => rw [e] at g; rw [beq_iff_eq.mp g]
/-- in a comprehension's block -/
theorem SX.blk (h : SX P T n C X) {scope : Scope} {s : Shared} {H : Hp} {c : Addr} {cl : List (Str × Addr)} {fp : List Addr} :
    SX P T n (C.blk scope) (X.blk s H scope (compEnvC scope cl c X.env) fp) :=
  ⟨h.gf, h.ff, by show relS scope X.env.scope = relS scope C.sc; rw [h.scope], h.N, h.nd, fun x e => e, h.calm, h.units, h.guards, fun e => absurd e (by show ¬ (false = true); decide), PassesOwn.never⟩
end
theorem star_cons {e : Expr} {es : List Expr} {env : Env} (h : notStar e = true) : starEach (e :: es) env = (false, eval e env) :: starEach es env := by
  cases e <;> first | rfl | (simp [notStar] at h)
theorem star_plain {pos : Pos} {env : Env} : ∀ {es : List Expr}, (∀ e ∈ es, notStar e = true) → (backTo pos (starEach es env)).any (·.1) = false
  | [], _ => rfl
  | e :: es, h => by
    rw [star_cons (h e List.mem_cons_self)]
    show (false || (backTo pos (starEach es env)).any (·.1)) = false
    rw [star_plain fun x hx => h x (List.mem_cons_of_mem _ hx)]; rfl
theorem ckEs_star {T : Tab} {C : SC} : ∀ {es : IEs} {xs : List Expr}, ckEs T C es xs = true → ∀ x ∈ xs, notStar x = true
  | .nil, xs, h => by
    unfold ckEs at h
    split at h
    · simp
    · cases h
  | .cons e es, xs, h => by
    unfold ckEs at h
    split at h
    · simp only [Bool.and_eq_true] at h
      intro x hx
      rcases List.mem_cons.mp hx with rfl | hx
      · exact h.1.1
      · exact ckEs_star h.2 x hx
    · cases h
end OC

namespace OC
open PySem PySem.Spec PyProof.Rows L2
variable {K : PySem.W.Frag} {mg : Str → Option Value}

/-! ### targets -/
/-- a target's reading -/
def gI (K : PySem.W.Frag) (t : IT) : TG := fun v σ H Q => ∃ ρ d dσ dσ', RepV K ρ H d v ∧ RepS K ρ H dσ σ ∧ assignT t d dσ = some dσ' ∧
  ∀ σ', RepS K ρ H dσ' σ' → (∀ vs : List Nat, (∀ i ∈ itSlots t, i ∈ vs) → L2.wipe σ' vs = L2.wipe σ vs) → Q σ' H
theorem wipe_set {σ : L2.St} {i : Nat} {v : V} : ∀ {vs : List Nat}, i ∈ vs → L2.wipe (σ.set i (some v)) vs = L2.wipe σ vs
  | [], h => by simp at h
  | w :: vs, h => by
    have key : ∀ {vs : List Nat} {σ : L2.St} {j : Nat} {x : Option V}, (L2.wipe (σ.set j x) vs).set j none = (L2.wipe σ vs).set j none := by
      intro vs
      induction vs with
      | nil => intro σ j x; unfold L2.wipe; rw [List.set_set]
      | cons u us ih =>
        intro σ j x
        unfold L2.wipe
        by_cases hj : u = j
        · subst hj
          rw [List.set_set, List.set_set]; exact ih
        · rw [List.set_comm _ _ hj, List.set_comm (l := L2.wipe σ us) _ _ hj]
          rw [ih]
    unfold L2.wipe
    by_cases hw : w = i
    · subst hw; exact key
    · rw [wipe_set (by rcases List.mem_cons.mp h with e | e; exact absurd e.symm hw; exact e)]
def gIs (is : List Nat) : TGs := fun vs σ H Q => vs.length = is.length ∧ Q (setV is vs σ) H
where
  setV : List Nat → List V → L2.St → L2.St
    | i :: is, v :: vs, σ => setV is vs (σ.set i (some v))
    | _, _, σ => σ
theorem setV_rep {ρ : List Addr} {H : Hp} : ∀ {is : List Nat} {ds : List D} {vs : List V} {dσ : Env'} {σ : L2.St}, RepVs K ρ H ds vs → RepS K ρ H dσ σ → RepS K ρ H (assignT.setAll is ds dσ) (gIs.setV is vs σ)
  | [], ds, vs, dσ, σ, _, h => by unfold assignT.setAll gIs.setV; exact h
  | i :: is, [], vs, dσ, σ, r, h => by rw [show vs = [] from r]; exact h
  | i :: is, d :: ds, vs, dσ, σ, r, h => by
    obtain ⟨v, w, rfl, r1, r2⟩ := r
    unfold assignT.setAll gIs.setV
    exact setV_rep r2 (h.set r1)
theorem setV_wipe : ∀ {is : List Nat} {vs : List V} {σ : L2.St} {ws : List Nat}, (∀ i ∈ is, i ∈ ws) → L2.wipe (gIs.setV is vs σ) ws = L2.wipe σ ws
  | [], vs, σ, ws, _ => by unfold gIs.setV; rfl
  | i :: is, [], σ, ws, _ => by unfold gIs.setV; rfl
  | i :: is, v :: vs, σ, ws, h => by
    unfold gIs.setV
    rw [setV_wipe fun j hj => h j (List.mem_cons_of_mem _ hj)]
    exact wipe_set (h i List.mem_cons_self)
section
variable {P : Prg} {T : Tab} {n : Nat} {C : SC} {X : Cx}
theorem pgs_I (h : SX P T n C X) : ∀ {is : List Nat} {es : List Expr}, ckT.go C is es = true → PGs X es (gIs is) ∧ (assignEach es X.env).length = is.length ∧ (assignEach es X.env).findIdx? (·.1) = none
  | [], [], _ => ⟨⟨fun pins s σ H vs us Q I r hq => by
      obtain ⟨hl, q⟩ := hq
      have e : vs = [] := List.eq_nil_of_length_eq_zero hl
      subst e
      exact pgs_nil.run pins s σ H [] us Q I r ⟨rfl, q⟩⟩, rfl, rfl⟩
  | i :: is, .Name x p :: es, g => by
    unfold ckT.go at g
    simp only [Bool.and_eq_true] at g
    obtain ⟨ih, hl, hf⟩ := pgs_I h (is := is) (es := es) g.2
    obtain ⟨l1, l2⟩ := h.sto g.1.2
    refine ⟨⟨fun pins s σ H vs us Q I r hq => ?_⟩, ?_, ?_⟩
    · obtain ⟨hl', q⟩ := hq
      match vs, hl', r, q with
      | v :: vs, hl', r, q =>
        exact (pgs_cons (pg_name (i := i) (pos := p) h.nd' (h.at g.1.1) l1 l2) ih).run pins s σ H (v :: vs) us Q I r ⟨v, vs, rfl, by simpa using hl', q⟩
    · show (assignEach es X.env).length + 1 = is.length + 1
      rw [hl]
    · show List.findIdx? (·.1) ((false, assign (.Name x p) X.env) :: assignEach es X.env) = none
      rw [List.findIdx?_cons, hf]; rfl
  | [], e :: es, g => by cases e <;> (unfold ckT.go at g; cases g)
  | i :: is, [], g => by unfold ckT.go at g; cases g
  | i :: is, .BoolOp .. :: es, g | i :: is, .NamedExpr .. :: es, g | i :: is, .BinOp .. :: es, g | i :: is, .UnaryOp .. :: es, g | i :: is, .Lambda .. :: es, g | i :: is, .IfExp .. :: es, g | i :: is, .Dict .. :: es, g
  | i :: is, .Set .. :: es, g | i :: is, .ListComp .. :: es, g | i :: is, .SetComp .. :: es, g | i :: is, .DictComp .. :: es, g | i :: is, .GeneratorExp .. :: es, g | i :: is, .Await .. :: es, g | i :: is, .Yield .. :: es, g
  | i :: is, .YieldFrom .. :: es, g | i :: is, .Compare .. :: es, g | i :: is, .Call .. :: es, g | i :: is, .FormattedValue .. :: es, g | i :: is, .JoinedStr .. :: es, g | i :: is, .Constant .. :: es, g | i :: is, .Attribute .. :: es, g
  | i :: is, .Subscript .. :: es, g | i :: is, .Starred .. :: es, g | i :: is, .List .. :: es, g | i :: is, .Tuple .. :: es, g | i :: is, .Slice .. :: es, g => by unfold ckT.go at g; cases g
theorem pg_I (h : SX P T n C X) {t : IT} {tg : Expr} (g : ckT C t tg = true) : PG X tg (gI X.K t) := by
  cases t with
  | nm i =>
    cases tg with
    | Name x p =>
      simp only [ckT, Bool.and_eq_true] at g
      obtain ⟨l1, l2⟩ := h.sto g.2
      refine ⟨fun pins s σ H v u Q I r hq => ?_⟩
      obtain ⟨ρ, d, dσ, dσ', rv, rs, ha, k⟩ := hq
      have ha : some (dσ.set i (some d)) = some dσ' := ha
      cases ha
      exact (pg_name (i := i) (pos := p) h.nd' (h.at g.1) l1 l2).run pins s σ H v u Q I r (k _ (rs.set rv) fun vs hv => wipe_set (hv i (by simp [itSlots])))
    | _ => exact absurd g (by simp [ckT])
  | tup is =>
    cases tg with
    | Tuple es kk p =>
      simp only [ckT, Bool.and_eq_true] at g
      obtain ⟨pg, hl, hf⟩ := pgs_I h g.1.2
      refine ⟨fun pins s σ H v u Q I r hq => ?_⟩
      obtain ⟨ρ, d, dσ, dσ', rv, rs, ha, k⟩ := hq
      unfold assignT at ha
      cases d with
      | tup ds =>
        simp only at ha
        split at ha
        · rename_i hlen
          cases ha
          obtain ⟨a, vs, rfl, h2, h3⟩ := repT rv
          have hvl : vs.length = is.length := by rw [h3.length, hlen]
          refine (pg_tup (n := is.length) (h.calm g.1.1).1 pg hl hf).run pins s σ H _ u Q I r ⟨a, vs, rfl, h2, hvl, hvl, ?_⟩
          exact k _ (setV_rep h3 rs) fun ws hw => setV_wipe hw
        · cases ha
      | _ => simp at ha
    | _ => exact absurd g (by simp [ckT])
end

/-! ### what is walked -/
def ItOk (K : PySem.W.Frag) (ρ0 : List Addr) (H0 : Hp) (src : List D × Guard) (J : It) : Prop :=
  ∀ (i : Nat) (ρ : List Addr) (G : GH) (H : Hp), Sto K ρ G H → Ext K ρ0 H0 ρ H → chkG src.2 G = true →
    (∀ d, src.1[i]? = some d → J.go i H ∧ ∀ x H', J.yld i H x H' → Sto K ρ G H' ∧ Ext K ρ H ρ H' ∧ RepV K ρ H' d x) ∧ (src.1.length ≤ i → J.stop i H)
theorem ItOk.up {ρ0 ρ1 : List Addr} {H0 H1 : Hp} {src : List D × Guard} {J : It} (h : ItOk K ρ0 H0 src J) (e : Ext K ρ0 H0 ρ1 H1) : ItOk K ρ1 H1 src J := fun i ρ G H S x g => h i ρ G H S (e.trans x) g
def tII (K : PySem.W.Frag) (mg : Str → Option Value) (W : WX) (m : Env' → M (List D × Guard)) : TI := fun σ H R => ∃ ρ G dσ, Sto K ρ G H ∧ RepS K ρ H dσ σ ∧
  Post (m dσ) G (fun src G' => ∀ J H' ρ', Sto K ρ' G' H' → Ext K ρ H ρ' H' → ItOk K ρ' H' src J → R J H') (ExW K mg W σ ρ H)
theorem chkG_app {g1 g2 : Guard} {G : GH} (h : chkG (g1 ++ g2) G = true) : chkG g1 G = true ∧ chkG g2 G = true := by
  unfold chkG at h ⊢
  rw [List.all_append, Bool.and_eq_true] at h
  exact h
theorem chkG_one {l : Nat} {xs : List D} {G : GH} (h : chkG [(l, xs)] G = true) : G[l]? = some (.lst xs) := by
  unfold chkG at h
  simp only [List.all_cons, List.all_nil, Bool.and_true] at h
  cases e : G[l]? with
  | none => rw [e] at h; cases h
  | some o =>
    obtain ⟨ys⟩ := o
    rw [e] at h
    have h : decide (ys = xs) = true := h
    rw [of_decide_eq_true h]
/-- the sources: a list as it stands, a tuple or a list that nobody writes -/
inductive Src (K : PySem.W.Frag) (ρ : List Addr) (H : Hp) : List D × Guard → Addr → Prop where
  | lst {l : Nat} {xs : List D} {a : Addr} : ρ[l]? = some a → Src K ρ H (xs, [(l, xs)]) a
  | frz {xs : List D} {vs : List V} {a : Addr} : SqF K H a vs → RepVs K ρ H xs vs → Src K ρ H (xs, []) a
inductive SrcT (K : PySem.W.Frag) (ρ : List Addr) (H : Hp) : List D × Guard → Addr → Prop where
  | tup {xs : List D} {vs : List V} {a : Addr} : SqT K H a vs → RepVs K ρ H xs vs → SrcT K ρ H (xs, []) a
theorem Src.get {ρ0 ρ : List Addr} {H0 H : Hp} {src : List D × Guard} {a : Addr} {G : GH} (h : Src K ρ0 H0 src a) (S : Sto K ρ G H) (e : Ext K ρ0 H0 ρ H) (g : chkG src.2 G = true) : ∃ vs, SqL K H a vs ∧ RepVs K ρ H src.1 vs := by
  cases h with
  | lst hl =>
    obtain ⟨a', vs, h1, h2, h3⟩ := S.lst (chkG_one g)
    have h4 := e.at hl
    rw [h4] at h1; cases h1
    exact ⟨vs, SqL.of h2, h3⟩
  | frz h1 h2 => exact ⟨_, (e.frz h1).l, h2.ext e⟩
theorem SrcT.get {ρ0 ρ : List Addr} {H0 H : Hp} {src : List D × Guard} {a : Addr} (h : SrcT K ρ0 H0 src a) (e : Ext K ρ0 H0 ρ H) : ∃ vs, SqT K H a vs ∧ RepVs K ρ H src.1 vs := by
  cases h with
  | tup h1 h2 => exact ⟨_, e.tups _ _ h1, h2.ext e⟩
theorem seqI_of {ρ : List Addr} {H : Hp} {G : GH} {d : D} {v : V} {ok : List D × Guard → GH → Prop} {ex : Str → Option D → GH → Prop} (S : Sto K ρ G H) (r : RepV K ρ H d v) (h : Post (seqI d) G ok ex) :
    ∃ a src, v = .ref a ∧ ((Src K ρ H src a ∧ (∃ vs, SqL K H a vs) ∧ isTup d = false) ∨ (SrcT K ρ H src a ∧ (∃ vs, SqT K H a vs) ∧ isTup d = true)) ∧ ok src G := by
  cases d with
  | tup xs =>
    obtain ⟨a, vs, rfl, h2, h3⟩ := repT r
    exact ⟨a, (xs, []), rfl, .inr ⟨.tup h2 h3, ⟨vs, h2⟩, rfl⟩, h⟩
  | frz xs =>
    obtain ⟨a, vs, rfl, h2, h3⟩ := repF r
    exact ⟨a, (xs, []), rfl, .inl ⟨.frz h2 h3, ⟨vs, h2.l⟩, rfl⟩, h⟩
  | loc i =>
    unfold Post seqI at h
    simp only at h
    cases e : G[i]? with
    | none => rw [e] at h; exact h.elim
    | some o =>
      obtain ⟨xs⟩ := o
      rw [e] at h
      obtain ⟨a, vs, rfl, h2, h3, h4⟩ := repL2 S r e
      exact ⟨a, (xs, [(i, xs)]), rfl, .inl ⟨.lst h2, ⟨vs, SqL.of h3⟩, rfl⟩, h⟩
  | _ => exact h.elim
theorem itok_l {ρ : List Addr} {H : Hp} {src : List D × Guard} {a : Addr} (h : Src K ρ H src a) : ItOk K ρ H src (Itl K a) := fun i ρ' G H' S e g => by
  obtain ⟨vs, h1, h2⟩ := h.get S e g
  refine ⟨fun d hd => ?_, fun hi => ⟨vs, h1, by rw [h2.length]; exact hi⟩⟩
  obtain ⟨v, h3, h4⟩ := h2.get hd
  refine ⟨⟨vs, v, h1, h3⟩, fun x H2 y => ?_⟩
  obtain ⟨rfl, y⟩ := y
  have := y vs h1
  rw [h3] at this; cases this
  exact ⟨S, Ext.refl, h4⟩
theorem itok_t {ρ : List Addr} {H : Hp} {src : List D × Guard} {a : Addr} (h : SrcT K ρ H src a) : ItOk K ρ H src (Itt K a) := fun i ρ' G H' S e g => by
  obtain ⟨vs, h1, h2⟩ := h.get e
  refine ⟨fun d hd => ?_, fun hi => ⟨vs, h1, by rw [h2.length]; exact hi⟩⟩
  obtain ⟨v, h3, h4⟩ := h2.get hd
  refine ⟨⟨vs, v, h1, h3⟩, fun x H2 y => ?_⟩
  obtain ⟨rfl, y⟩ := y
  have := y vs h1
  rw [h3] at this; cases this
  exact ⟨S, Ext.refl, h4⟩
theorem rng_get : ∀ (n : Nat) (lo : Int) (i : Nat), (rngD lo n)[i]? = if i < n then some (.int (lo + i)) else none
  | 0, lo, i => by simp [rngD]
  | n + 1, lo, 0 => by simp [rngD]
  | n + 1, lo, i + 1 => by
    show (rngD (lo + 1) n)[i]? = _
    rw [rng_get n (lo + 1) i]
    by_cases h : i < n
    · rw [if_pos h, if_pos (by omega)]
      congr 2; try omega
    · rw [if_neg h, if_neg (by omega)]
theorem rng_len : ∀ (n : Nat) (lo : Int), (rngD lo n).length = n
  | 0, lo => rfl
  | n + 1, lo => by simp [rngD, rng_len n (lo + 1)]
theorem itok_r {ρ : List Addr} {H : Hp} {lo : Int} {n : Nat} : ItOk K ρ H (rngD lo n, []) (Itr lo n) := fun i ρ' G H' S e g => by
  refine ⟨fun d hd => ?_, fun hi => by rw [rng_len] at hi; exact hi⟩
  have hd : (rngD lo n)[i]? = some d := hd
  rw [rng_get] at hd
  by_cases h : i < n
  · rw [if_pos h] at hd; cases hd
    refine ⟨h, fun x H2 y => ?_⟩
    obtain ⟨rfl, rfl⟩ := y
    exact ⟨S, Ext.refl, rfl⟩
  · rw [if_neg h] at hd; cases hd
theorem enm_get : ∀ (xs : List D) (lo : Int) (i : Nat), (enmD lo xs)[i]? = (xs[i]?).map fun x => .tup [.int (lo + i), x]
  | [], lo, i => by simp [enmD]
  | x :: xs, lo, 0 => by simp [enmD]
  | x :: xs, lo, i + 1 => by
    show (enmD (lo + 1) xs)[i]? = _
    rw [enm_get xs (lo + 1) i]
    have e : lo + 1 + (i : Int) = lo + ((i + 1 : Nat) : Int) := by omega
    rw [e]; rfl
theorem enm_len : ∀ (xs : List D) (lo : Int), (enmD lo xs).length = xs.length
  | [], lo => rfl
  | x :: xs, lo => by simp [enmD, enm_len xs (lo + 1)]
theorem zip_get : ∀ (xs ys : List D) (i : Nat) (d : D), (zipD xs ys)[i]? = some d → ∃ x y, xs[i]? = some x ∧ ys[i]? = some y ∧ d = .tup [x, y]
  | [], ys, i, d, h => by simp [zipD] at h
  | x :: xs, [], i, d, h => by simp [zipD] at h
  | x :: xs, y :: ys, 0, d, h => by simp [zipD] at h; exact ⟨x, y, rfl, rfl, h.symm⟩
  | x :: xs, y :: ys, i + 1, d, h => by
    obtain ⟨a, b, h1, h2, h3⟩ := zip_get xs ys i d (by simpa [zipD] using h)
    exact ⟨a, b, by simpa using h1, by simpa using h2, h3⟩
theorem zip_len : ∀ (xs ys : List D), (zipD xs ys).length = min xs.length ys.length
  | [], ys => by simp [zipD]
  | x :: xs, [] => by simp [zipD]
  | x :: xs, y :: ys => by simp only [zipD, List.length_cons, zip_len xs ys]; omega
/-- a new pair -/
theorem new_pair {ρ : List Addr} {G : GH} {H : Hp} {p : Addr} {x y : V} {d e : D} (S : Sto K ρ G H) (hp : H p = none) (r1 : RepV K ρ H d x) (r2 : RepV K ρ H e y) :
    Sto K ρ G (upd H p (.tup [x, y])) ∧ Ext K ρ H ρ (upd H p (.tup [x, y])) ∧ RepV K ρ (upd H p (.tup [x, y])) (.tup [d, e]) (.ref p) := by
  have ex : Ext K ρ H ρ (upd H p (.tup [x, y])) := ext_upd (.inl hp)
  exact ⟨S.other hp, ex, ⟨p, [x, y], rfl, .inl (.inl upd_same), ⟨x, [y], rfl, r1.ext ex, y, [], rfl, r2.ext ex, rfl⟩⟩⟩
theorem itok_el {ρ : List Addr} {H : Hp} {src : List D × Guard} {a : Addr} (h : Src K ρ H src a) : ItOk K ρ H (enmD 0 src.1, src.2) (Ite K a) := fun i ρ' G H' S e g => by
  obtain ⟨vs, h1, h2⟩ := h.get S e g
  refine ⟨fun d hd => ?_, fun hi => ⟨vs, h1, by rw [h2.length, ← enm_len src.1 0]; exact hi⟩⟩
  have hd : (enmD 0 src.1)[i]? = some d := hd
  rw [enm_get] at hd
  obtain ⟨x, hx, rfl⟩ := Option.map_eq_some_iff.mp hd
  obtain ⟨v, h3, h4⟩ := h2.get hx
  refine ⟨⟨vs, v, h1, h3⟩, fun y H2 q => ?_⟩
  obtain ⟨p, w, rfl, hp, rfl, q⟩ := q
  have := q vs h1
  rw [h3] at this; cases this
  have e0 : (0 : Int) + (i : Int) = (i : Int) := by omega
  rw [e0]
  exact new_pair S hp rfl h4
theorem itok_zl {ρ : List Addr} {H : Hp} {src src2 : List D × Guard} {a b : Addr} (h : Src K ρ H src a) (h' : Src K ρ H src2 b) : ItOk K ρ H (zipD src.1 src2.1, src.2 ++ src2.2) (Itz K a b) := fun i ρ' G H' S e g => by
  obtain ⟨g1, g2⟩ := chkG_app g
  obtain ⟨vs, h1, h2⟩ := h.get S e g1
  obtain ⟨ws, k1, k2⟩ := h'.get S e g2
  refine ⟨fun d hd => ?_, fun hi => ⟨vs, ws, h1, k1, ?_⟩⟩
  · obtain ⟨x, y, hx, hy, rfl⟩ := zip_get _ _ _ _ hd
    obtain ⟨v, h3, h4⟩ := h2.get hx
    obtain ⟨u, k3, k4⟩ := k2.get hy
    refine ⟨⟨vs, ws, v, u, h1, k1, h3, k3⟩, fun z H2 q => ?_⟩
    obtain ⟨p, v', u', rfl, hp, rfl, q1, q2⟩ := q
    have e1 := q1 vs h1
    have e2 := q2 ws k1
    rw [h3] at e1; cases e1
    rw [k3] at e2; cases e2
    exact new_pair S hp h4 k4
  · have hi : (zipD src.1 src2.1).length ≤ i := hi
    rw [zip_len] at hi
    rw [h2.length, k2.length]; omega
theorem itok_zt {ρ : List Addr} {H : Hp} {src src2 : List D × Guard} {a b : Addr} (h : SrcT K ρ H src a) (h' : SrcT K ρ H src2 b) : ItOk K ρ H (zipD src.1 src2.1, src.2 ++ src2.2) (RZ.ItzT K a b) := fun i ρ' G H' S e g => by
  obtain ⟨vs, h1, h2⟩ := h.get e
  obtain ⟨ws, k1, k2⟩ := h'.get e
  refine ⟨fun d hd => ?_, fun hi => ⟨vs, ws, h1, k1, ?_⟩⟩
  · obtain ⟨x, y, hx, hy, rfl⟩ := zip_get _ _ _ _ hd
    obtain ⟨v, h3, h4⟩ := h2.get hx
    obtain ⟨u, k3, k4⟩ := k2.get hy
    refine ⟨⟨vs, ws, v, u, h1, k1, h3, k3⟩, fun z H2 q => ?_⟩
    obtain ⟨p, v', u', rfl, hp, rfl, q1, q2⟩ := q
    have e1 := q1 vs h1
    have e2 := q2 ws k1
    rw [h3] at e1; cases e1
    rw [k3] at e2; cases e2
    exact new_pair S hp h4 k4
  · have hi : (zipD src.1 src2.1).length ≤ i := hi
    rw [zip_len] at hi
    rw [h2.length, k2.length]; omega
end OC

/-! enumerate of a tuple -/
namespace PySem
open Sem (wp)
set_option maxHeartbeats 1000000 in
theorem oc_enumerate_newT (l : Addr) (items : Array Value) :
    Meets (Builtin.«enumerate.__new__» ⟨[.type "enumerate", .ref l], []⟩) (fun _ R s => s.heap.IsTuple l items ∧
      R (.ok (.ret (.ref (s.heap.push { cls := .type "tuple_iterator", data := .fields #[.ref l, .int 0 0] }).objs.size)))
        { s with heap := (s.heap.push { cls := .type "tuple_iterator", data := .fields #[.ref l, .int 0 0] }).push { cls := .type "enumerate", data := .fields #[.none, .bool false, .ref s.heap.objs.size, rawInt 0, .none, .none] } }) :=
  .of_wp fun prog w A R s h => by
    obtain ⟨hp, g, d, tk, os⟩ := s; obtain ⟨hL, h⟩ := h
    have hsub := sub_enumerate
    have q1 : ∀ {A' : Around} {E : Value → Shared → Prop} {Q : Value → Shared → Prop}, Q (.ref hp.objs.size) ⟨hp.push { cls := .type "tuple_iterator", data := .fields #[.ref l, .int 0 0] }, g, d, tk, os⟩ → wpAny (model prog w) A' (pyIter (.ref l)) Q E ⟨hp, g, d, tk, os⟩ :=
      fun q => wpAny_pyIter_tuple hL q
    wp_walk using q1
    refine wpAny_stack_any fun st => wpAny_pure ?_
    split
    · rename_i c _ _ _ _ _
      cases (c == Value.type "enumerate")
      · wp_walk using q1
        exact ⟨_, rfl, h⟩
      · wp_walk using q1
        exact ⟨_, rfl, h⟩
    · wp_walk using q1
      exact ⟨_, rfl, h⟩
theorem oc_call_enumerate_tuple {prog : Program} {w : World} {A : Around} {E : Value → Shared → Prop} {s : Shared} {l : Addr} {items : Array Value} {Q : Value → Shared → Prop} (hL : s.heap.IsTuple l items)
    (h : ∀ h', IsEnum h' (s.heap.objs.size + 1) s.heap.objs.size 0 .none → h'.IsTupleIter s.heap.objs.size l 0 → h'.objs.size = s.heap.objs.size + 2 →
      (∀ b o, s.heap.get? b = some o → h'.get? b = some o) → Q (.ref (s.heap.objs.size + 1)) { s with heap := h' }) :
    wpAny (model prog w) A (call (.type "enumerate") [.ref l]) Q E s := by
  refine callType_new F.called_enumerate (by decide) (F.typeCall_enumerate_1 _) (F.newCall_enumerate_1 _) (fun obj => F.args_object_init_2 obj _) F.entry_enumerate_new
    (oc_enumerate_newT l items) ⟨hL, ?_⟩
  have hz : (s.heap.push { cls := .type "tuple_iterator", data := .fields #[.ref l, .int 0 0] }).objs.size = s.heap.objs.size + 1 := Heap.size_push ..
  show _ ∧ _
  rw [hz]
  have he : IsEnum ((s.heap.push { cls := .type "tuple_iterator", data := .fields #[.ref l, .int 0 0] }).push
      { cls := .type "enumerate", data := .fields #[.none, .bool false, .ref s.heap.objs.size, rawInt 0, .none, .none] }) (s.heap.objs.size + 1) s.heap.objs.size 0 .none := by
    have := Heap.get?_push_size (s.heap.push { cls := .type "tuple_iterator", data := .fields #[.ref l, .int 0 0] })
      (o := { cls := .type "enumerate", data := .fields #[.none, .bool false, .ref s.heap.objs.size, rawInt 0, .none, .none] }) rfl
    rw [hz] at this; exact this
  refine ⟨⟨_, he, rfl⟩, h _ he ⟨_, Heap.get?_push_of_some _ (Heap.get?_push_size _ rfl), rfl, rfl⟩ (by rw [Heap.size_push, hz]) fun b o x => Heap.get?_push_of_some _ (Heap.get?_push_of_some _ x)⟩
end PySem
namespace OC
open PySem PySem.Spec PyProof.Rows L2
/-- the tuple at a, each item in a new pair -/
def IteT (K : PySem.W.Frag) (a : Addr) : It :=
  ⟨fun i H => ∃ (xs : List V) (x : V), SqT K H a xs ∧ xs[i]? = some x, fun i H v H' => ∃ T x, v = .ref T ∧ H T = none ∧ H' = upd H T (.tup [.int (i : Nat), x]) ∧ ∀ xs, SqT K H a xs → xs[i]? = some x, fun i H => ∃ xs : List V, SqT K H a xs ∧ xs.length ≤ i⟩
theorem turn_enumT {P : Program} {w : World} {K : PySem.W.Frag} {elts : List Expr} {kk : Nat} {tpos : Pos} (a e it : Addr) (hae : a ≠ e) (hai : a ≠ it) :
    Turn P w K (.Tuple elts kk tpos) (IteT K a) [e, it] e (fun i h => (∃ old, IsEnum h e it ((i : Nat) : Int) old) ∧ h.IsTupleIter it a i ∧ e ≠ it) where
  mem := by simp
  obj := fun i h st b hb => by
    obtain ⟨⟨old, he⟩, ⟨o, ho, hc, hd⟩, _⟩ := st
    have e' : b = e ∨ b = it := by simpa using hb
    rcases e' with z | z
    · rw [z]; exact ⟨_, he, fun v q => nomatch q⟩
    · rw [z]; exact ⟨o, ho, fun v q => by rw [hd] at q; cases q⟩
  keep := fun i h h' st k => let ⟨⟨old, he⟩, hi, hne⟩ := st; ⟨⟨old, k e (by simp) _ he⟩, hi.at fun o q => k it (by simp) o q, hne⟩
  item := by
    intro X hP hw hK hc i pins s σ H E I hf st hg
    subst hP hw hK
    obtain ⟨⟨old, he⟩, hit, hne⟩ := st
    obtain ⟨xs, x, hq, hx⟩ := hg
    obtain ⟨its, rv, p, hz⟩ := I.tuple hq
    obtain ⟨u, hu, ru⟩ := rv.get hx
    have hel : e < s.heap.objs.size := Heap.lt_size he
    have hil : it < s.heap.objs.size := by obtain ⟨_, q, _⟩ := hit; exact Heap.lt_size q
    have hlt : i < its.toArray.size := by
      have := (List.getElem?_eq_some_iff.mp hu).1
      simpa using this
    have D := Draws.tuple (prog := X.prog) (w := X.w) (A := X.A.in1) (I.ok.hd hc) it a hai its.toArray
    refine wpAny_pyNext_enum_itemD D he ⟨hit, p⟩ hlt hne (by simp [hne, Ne.symm hae]) fun x' h' tk hx' ho hst' hT hsz hk => ?_
    have ex : x' = u := by
      have h1 : its.toArray[i]? = some u := by simpa using hu
      have h2 : its.toArray[i]? = some x' := hx'
      rw [h1] at h2; exact (Option.some.inj h2).symm
    subst ex
    refine ⟨_, rfl, wpAny_letOwnedTupleGo_enum (s := { s with heap := h', toks := tk + 1 }) ho fun h'' he' sb => ?_⟩
    have hT2 : h''.get? s.heap.objs.size = some { cls := .type "tuple", data := .seq #[.int i tk, x'] } := (sb.2 _ (Nat.ne_of_gt hel)).trans hT
    have new : ObjOk X.prog X.w (upd H s.heap.objs.size (.tup [.int (i : Nat), x])) h'' s.heap.objs.size (.tup [.int (i : Nat), x]) :=
      ⟨by show 2 ≤ sizeLine; decide, [.int i tk, x'], .cons ⟨_, rfl⟩ (.cons ru .nil), ⟨_, hT2, rfl, _, rfl⟩⟩
    have I1 : Inv X pins σ (upd H s.heap.objs.size (.tup [.int (i : Nat), x])) { s with heap := h'', toks := tk + 1 } :=
      I.turnedNew (ch := [e, it]) (fun b ob hb q => (sb.2 b (fun z => hb (by simp [z]))).trans (hk b ob (fun z => hb (by simp [z])) (fun z => hb (by simp [z])) q)) hf (Nat.le_refl _) new
    refine ⟨.ref s.heap.objs.size, _, I1, rfl, ⟨_, x, rfl, I.hok.fresh (Nat.le_refl _), rfl, fun ys hy => by rw [I.tuple_inj hy hq]; exact hx⟩, ⟨⟨x', ?_⟩, hst'.1.at fun o q => (sb.2 it (Ne.symm hne)).trans q, hne⟩, fun b hb => ?_⟩
    · have e1 : ((i + 1 : Nat) : Int) = (i : Int) + 1 := by omega
      rw [e1]; exact he'
    · have hb' : b < s.heap.objs.size := by
        have e' : b = e ∨ b = it := by simpa using hb
        rcases e' with z | z
        · rw [z]; exact hel
        · rw [z]; exact hil
      rw [upd_ne (Nat.ne_of_lt hb')]
      exact (hf b hb).1
  done := by
    intro X hP hw hK hc i pins s σ H E I hf st hg
    subst hP hw hK
    obtain ⟨⟨old, he⟩, hit, hne⟩ := st
    obtain ⟨xs, hq, hx⟩ := hg
    obtain ⟨its, rv, p, hz⟩ := I.tuple hq
    obtain ⟨f0, f1, f2, f3, f4, f5⟩ := hf it (by simp)
    have hl := rv.length
    have hT : s.TypeIs (.ref e) "enumerate" := ⟨_, he, rfl⟩
    unfold pyNext
    refine wpAny_bind (wpAny_attempt (wpAny_callSpecial?_slot (name := Str.ofString "__next__") hT F.slot_enumerate_next
      (wpAny_call_entry F.slot_enumerate_next hT F.entry_enumerate_next ?_ (F.args_enumerate_next_1 _))))
    show wpAny _ _ (field (.ref e) 2 >>= _) _ _ _
    refine wpAny_bind (wpAny_field he rfl (x := .ref it) rfl ?_)
    refine wpAny_bind (wpAny_nextOf_tuple_end (I.ok.hd hc) hit p (by simp; omega) fun h' x he' hx' => ?_)
    obtain ⟨o, ho, hc'⟩ := hx'
    refine wpAny_bind (wpAny_isInstance (T := "StopIteration") (b := true) ⟨o, ho, hc'⟩ isSubtype_stop ?_)
    exact wpAny_pure ⟨rfl, I.turned (t' := s.toks) (fun b o hb q => he' b o hb q) f0 f1 f3 f4 f5⟩
  self := fun A i s Q E st h => let ⟨⟨_, he⟩, _⟩ := st; wpAny_pyIter_enum he h
def iEnumA (K : PySem.W.Frag) (ta : TA) : TI := fun σ H R => ta σ H fun vs H1 => ∃ a xs, vs = [.ref a] ∧ ((SqL K H1 a xs ∧ R (Ite K a) H1) ∨ (SqT K H1 a xs ∧ R (IteT K a) H1))
theorem pi_enumA {X : Cx} {e : Expr} {ta : TA} {p pos tpos : Pos} {elts : List Expr} {kk : Nat} (hg : Gl X "enumerate") (hm : X.mg "enumerate" = none) (ha : PA X [e] ta) (hs : starEach [e] X.env = [(false, eval e X.env)]) :
    PI X (.Tuple elts kk tpos) (.Call (.Name "enumerate" p) [e] [] pos) (iEnumA X.K ta) := by
  refine ⟨fun pins s σ H R I h => ?_⟩
  refine Call_ (ld_blt I hg hm boot_enumerate (PyProof.Rows.callWith_type1 (thn (ha.run pos pins s σ H _ I h) fun us s1 ⟨vs, H1, I1, r1, q1⟩ => ?_) hs rfl))
  obtain ⟨a, xs, ex, q⟩ := q1
  subst ex
  have fin : ∀ b, b ∈ [s1.heap.objs.size + 1, s1.heap.objs.size] → FpOk X pins H1 b := fun b hb => by
    have e' : b = s1.heap.objs.size + 1 ∨ b = s1.heap.objs.size := by simpa using hb
    have hle : s1.heap.objs.size ≤ b := by
      rcases e' with z | z
      · rw [z]; exact Nat.le_add_right _ _
      · rw [z]; exact Nat.le_refl _
    exact I1.fpOk hle (I1.hok.fresh hle)
  cases r1 with
  | cons r rr =>
    cases rr
    cases r
    rcases q with ⟨hq, q⟩ | ⟨hq, q⟩
    · obtain ⟨its, rv, p', hz⟩ := I1.list hq
      refine call_enumerate_list p'.isList fun h' he hit hsz hk => wpAny_pyIter_enum he ?_
      have I2 : Inv X pins σ H1 { s1 with heap := h' } := I1.kept (t' := s1.toks) hk
      exact ⟨s1.heap.objs.size + 1, [s1.heap.objs.size + 1, s1.heap.objs.size], _, _, H1, rfl, I2, turn_enum a (s1.heap.objs.size + 1) s1.heap.objs.size, ⟨⟨.none, he⟩, hit, Nat.succ_ne_self _⟩, fin, q⟩
    · obtain ⟨its, rv, p', hz⟩ := I1.tuple hq
      have hal : a < s1.heap.objs.size := p'.lt
      refine oc_call_enumerate_tuple (show s1.heap.IsTuple a its.toArray from p') fun h' he hit hsz hk => wpAny_pyIter_enum he ?_
      have I2 : Inv X pins σ H1 { s1 with heap := h' } := I1.kept (t' := s1.toks) hk
      exact ⟨s1.heap.objs.size + 1, [s1.heap.objs.size + 1, s1.heap.objs.size], _, _, H1, rfl, I2, turn_enumT a (s1.heap.objs.size + 1) s1.heap.objs.size (Nat.ne_of_lt (Nat.lt_succ_of_lt hal)) (Nat.ne_of_lt hal), ⟨⟨.none, he⟩, hit, Nat.succ_ne_self _⟩, fin, q⟩
theorem itok_et {K : PySem.W.Frag} {ρ : List Addr} {H : Hp} {src : List D × Guard} {a : Addr} (h : SrcT K ρ H src a) : ItOk K ρ H (enmD 0 src.1, src.2) (IteT K a) := fun i ρ' G H' S e g => by
  obtain ⟨vs, h1, h2⟩ := h.get e
  refine ⟨fun d hd => ?_, fun hi => ⟨vs, h1, by rw [h2.length, ← enm_len src.1 0]; exact hi⟩⟩
  have hd : (enmD 0 src.1)[i]? = some d := hd
  rw [enm_get] at hd
  obtain ⟨x, hx, rfl⟩ := Option.map_eq_some_iff.mp hd
  obtain ⟨v, h3, h4⟩ := h2.get hx
  refine ⟨⟨vs, v, h1, h3⟩, fun y H2 q => ?_⟩
  obtain ⟨p, w, rfl, hp, rfl, q⟩ := q
  have := q vs h1
  rw [h3] at this; cases this
  have e0 : (0 : Int) + (i : Int) = (i : Int) := by omega
  rw [e0]
  exact new_pair S hp rfl h4
end OC

namespace OC
open PySem PySem.Spec PyProof.Rows L2

theorem pt_ifE {X : Cx} {c a b : Expr} {pos : Pos} {tc ta tb : TT} (hc : PT X c tc) (ha : PT X a ta) (hb : PT X b tb) : PT X (.IfExp c a b pos) (fun σ H Q => tc σ H fun d H1 => if d = true then ta σ H1 Q else tb σ H1 Q) := by
  refine ⟨fun pins s σ H Q I h => ?_⟩
  refine isTrue_IfExp (thn (hc.run pins s σ H _ I h) fun d s1 ⟨H1, I1, q1⟩ => ?_)
  cases d with
  | true => exact ha.run pins s1 σ H1 Q I1 q1
  | false => exact hb.run pins s1 σ H1 Q I1 q1
theorem po_imp {X : Cx} {e : Option Expr} {t t' : TO} (h : PO X e t) (k : ∀ σ H Q, t' σ H Q → t σ H Q) : PO X e t' := ⟨fun pins s σ H Q I q => h.run pins s σ H Q I (k σ H Q q)⟩
theorem pk_imp {X : Cx} {kws : List Keyword} {t t' : TA} (h : PK X kws t) (k : ∀ σ H Q, t' σ H Q → t σ H Q) : PK X kws t' := ⟨fun pos pins s σ H Q I q => h.run pos pins s σ H Q I (k σ H Q q)⟩
theorem pi_imp {X : Cx} {tg e : Expr} {t t' : TI} (h : PI X tg e t) (k : ∀ σ H R, t' σ H R → t σ H R) : PI X tg e t' := ⟨fun pins s σ H R I q => h.run pins s σ H R I (k σ H R q)⟩
theorem pw_imp {X : Cx} {e : Expr} {t t' : TT} (h : PW X e t) (k : ∀ σ H Q, t' σ H Q → t σ H Q) : PW X e t' := ⟨fun wh pins s σ H Q I q => h.run wh pins s σ H Q I (k σ H Q q)⟩

section
variable {P : Prg} {T : Tab} {n : Nat} {C : SC} {X : Cx} {W : WX}
/-- what is shown of an expression -/
abbrev GE (P : Prg) (n : Nat) (X : Cx) (W : WX) (ie : IE) (e : Expr) : Prop := PE X e (tI X.K X.mg W (den (callN P n) ie)) ∧ PT X e (tT X.K X.mg W (den (callN P n) ie))
theorem both {m : Env' → M D} {e : Expr} (h : PE X e (tI X.K X.mg W m)) (he : ∀ whole, isTrue e X.env whole = (do let v ← whole; standAt e.pos; holding [v] (truthy v))) :
    PE X e (tI X.K X.mg W m) ∧ PT X e (tT X.K X.mg W m) := ⟨h, pt_imp (pt_val h he) fun _ _ _ q => tT_tB q⟩
/-- a constant's reading -/
theorem tI_const {m : Env' → M D} {d : D} {v : V} {σ : L2.St} {H : Hp} {Q : VK} (hm : ∀ dσ, m dσ = mret d) (hv : ∀ ρ, RepV X.K ρ H d v) (h : tI X.K X.mg W m σ H Q) : Q v H := by
  obtain ⟨ρ, G, dσ, S, hs, h⟩ := h
  rw [hm] at h
  exact h.mret.self S (hv ρ)
theorem callN_len {f : Nat} {ds : List D} {G : GH} {ok : D → GH → Prop} {ex : Str → Option D → GH → Prop} {fn : Fn} (h : Post (callN P n f ds) G ok ex) (hf : P[f]? = some fn) : ds.length = fn.params.length := by
  cases n with
  | zero => exact h.mbad.elim
  | succ k =>
    unfold Post callN at h
    simp only [hf] at h
    by_cases hl : ds.length = fn.params.length
    · exact hl
    · simp only [hl, if_false] at h
theorem biName_glob {b : Bi} (hb : biOk b = true) : biN b = "gcd" ∨ biN b ∈ blts := by
  cases b <;> first | exact .inl rfl | (refine .inr ?_; decide +kernel) | cases hb
/-- built-in functions -/
theorem pe_bi (h : SX P T n C X) {b : Bi} {p pos : Pos} {e : Expr} {es : List Expr} {t : TA} (hg : glB C.sc (biN b) = true) (hok : biOk b = true) (hcalm : (!biC b || C.calm) = true) (ha : PA X (e :: es) t)
    (hst : ∀ x ∈ e :: es, notStar x = true) : PE X (.Call (.Name (biN b) p) (e :: es) [] pos) (tCB (rDs X.K (biD b)) t) := by
  obtain ⟨g1, g2, g3⟩ := h.gl hg
  have he : starEach (e :: es) X.env = (false, eval e X.env) :: starEach es X.env := star_cons (hst e List.mem_cons_self)
  have hpl : (backTo pos (starEach es X.env)).any (·.1) = false := star_plain fun x hx => hst x (List.mem_cons_of_mem _ hx)
  have cm : biC b = true → X.calm = true := fun q => by
    rw [q] at hcalm
    exact (h.calm (by simpa using hcalm)).1
  have mn : biN b ∈ blts → X.mg (biN b) = none := fun q => h.gf.blt _ q
  cases b with
  | len => exact pe_callB cb_len g1 (mn (by decide +kernel)) boot_len ha g3 g2 he hpl
  | abs => exact pe_callB cb_abs g1 (mn (by decide +kernel)) boot_abs ha g3 g2 he hpl
  | int => exact pe_callTy cb_int g1 (mn (by decide +kernel)) boot_int ha g3 g2 he hpl
  | sum => exact pe_callB (cb_sum (cm rfl)) g1 (mn (by decide +kernel)) boot_sum ha g3 g2 he hpl
  | all => exact pe_callB (cb_all (cm rfl)) g1 (mn (by decide +kernel)) boot_all ha g3 g2 he hpl
  | any => exact pe_callB (cb_any (cm rfl)) g1 (mn (by decide +kernel)) boot_any ha g3 g2 he hpl
  | tuple => exact pe_callTy cb_tuple g1 (mn (by decide +kernel)) boot_tuple ha g3 g2 he hpl
  | list => exact pe_callTy cb_list g1 (mn (by decide +kernel)) boot_list ha g3 g2 he hpl
  | max2 => exact pe_callB (cb_max2 (cm rfl)) g1 (mn (by decide +kernel)) boot_max ha g3 g2 he hpl
  | min2 => exact pe_callB (cb_min2 (cm rfl)) g1 (mn (by decide +kernel)) boot_min ha g3 g2 he hpl
  | gcd => exact pe_callBfun cb_gcd g1 h.gf.gcd ha g2 he hpl
  | repr => exact pe_callB (cb_repr h.guards (by have := h.units; omega)) g1 (mn (by decide +kernel)) (by decide +kernel) ha g3 g2 he hpl
  | max1 => cases hok
  | min1 => cases hok
/-- a built-in type's name -/
theorem pe_tyname (h : SX P T n C X) {t : Ty} {x : Str} {p : Pos} (hx : (x == tyS t) = true) (hg : glB C.sc x = true) : PE X (.Name x p) (tC (.ty (tyN t))) := by
  have e := beq_iff_eq.mp hx
  subst e
  obtain ⟨g1, g2, g3⟩ := h.gl hg
  cases t with
  | int => exact pe_bltn (v := .ty "int") g1 (h.gf.blt _ (by decide +kernel)) boot_int rfl g3 g2
  | bool => exact pe_bltn (v := .ty "bool") g1 (h.gf.blt _ (by decide +kernel)) boot_bool rfl g3 g2
  | str => exact pe_bltn (v := .ty "str") g1 (h.gf.blt _ (by decide +kernel)) boot_str rfl g3 g2
  | tup => exact pe_bltn (v := .ty "tuple") g1 (h.gf.blt _ (by decide +kernel)) boot_tuple rfl g3 g2
  | lst => exact pe_bltn (v := .ty "list") g1 (h.gf.blt _ (by decide +kernel)) boot_list rfl g3 g2
theorem pa_tys (h : SX P T n C X) : ∀ {ts : List Ty} {es : List Expr}, ckTy.go C.sc ts es = true → PA X es (fun _ H Q => Q (ts.map fun t => .ty (tyN t)) H) ∧ ∀ x ∈ es, notStar x = true
  | [], [], _ => ⟨pa_nil, by simp⟩
  | t :: ts, .Name x p :: es, g => by
    unfold ckTy.go at g
    simp only [Bool.and_eq_true] at g
    obtain ⟨ih, st⟩ := pa_tys h (ts := ts) (es := es) g.2
    exact ⟨pa_imp (pa_cons (pe_tyname h (p := p) g.1.1 g.1.2) ih rfl) fun σ H Q q => q, fun y hy => by
      rcases List.mem_cons.mp hy with rfl | hy
      · rfl
      · exact st y hy⟩
  | [], e :: es, g => by cases e <;> (unfold ckTy.go at g; cases g)
  | t :: ts, [], g => by unfold ckTy.go at g; cases g
  | i :: is, .BoolOp .. :: es, g | i :: is, .NamedExpr .. :: es, g | i :: is, .BinOp .. :: es, g | i :: is, .UnaryOp .. :: es, g | i :: is, .Lambda .. :: es, g | i :: is, .IfExp .. :: es, g | i :: is, .Dict .. :: es, g
  | i :: is, .Set .. :: es, g | i :: is, .ListComp .. :: es, g | i :: is, .SetComp .. :: es, g | i :: is, .DictComp .. :: es, g | i :: is, .GeneratorExp .. :: es, g | i :: is, .Await .. :: es, g | i :: is, .Yield .. :: es, g
  | i :: is, .YieldFrom .. :: es, g | i :: is, .Compare .. :: es, g | i :: is, .Call .. :: es, g | i :: is, .FormattedValue .. :: es, g | i :: is, .JoinedStr .. :: es, g | i :: is, .Constant .. :: es, g | i :: is, .Attribute .. :: es, g
  | i :: is, .Subscript .. :: es, g | i :: is, .Starred .. :: es, g | i :: is, .List .. :: es, g | i :: is, .Tuple .. :: es, g | i :: is, .Slice .. :: es, g => by unfold ckTy.go at g; cases g
theorem pclsv : ∀ ts : List Ty, Paired ClsV (ts.map fun t => V.ty (tyN t)) (ts.map fun t => Value.type (tyN t))
  | [] => .nil
  | t :: ts => .cons (.ty _) (pclsv ts)
/-- isinstance(a, ..) -/
theorem pe_isin (h : SX P T n C X) {a : IE} {l r : Expr} {ts : List Ty} {p pos : Pos} (hg : glB C.sc "isinstance" = true) (ha : PE X l (tI X.K X.mg W (den (callN P n) a))) (hl : notStar l = true) (hr : ckTy C.sc ts r = true) :
    PE X (.Call (.Name "isinstance" p) [l, r] [] pos) (tI X.K X.mg W (den (callN P n) (.isin a ts))) := by
  obtain ⟨g1, g2, g3⟩ := h.gl hg
  have hm : X.mg "isinstance" = none := h.gf.blt _ (by decide +kernel)
  cases r with
  | Name x p2 =>
    match ts, hr with
    | [t], hr =>
      unfold ckTy at hr
      simp only [Bool.and_eq_true] at hr
      have hst : ∀ y ∈ [l, Expr.Name x p2], notStar y = true := fun y hy => by
        rcases List.mem_cons.mp hy with rfl | hy
        · exact hl
        · rw [List.mem_singleton.mp hy]; rfl
      refine pe_imp (pe_callB call_isi g1 hm boot_isinstance (pa_cons ha (pa_cons (pe_tyname h (p := p2) hr.1 hr.2) pa_nil rfl) (star_cons hl)) g3 g2 (star_cons hl) (star_plain fun y hy => hst y (List.mem_cons_of_mem _ hy))) fun σ H Q q => ?_
      obtain ⟨ρ, G, dσ, S, hs, q⟩ := q
      have q : Post (den (callN P n) a dσ >>= fun x => isinD x [t]) G (Want X.K ρ H Q) (ExW X.K X.mg W σ ρ H) := q
      refine tI_of S hs Ext.refl q.bind fun d G1 v H1 ρ1 q1 S1 e1 r1 => ?_
      unfold Post isinD at q1
      cases e : isTys G1 d [t] with
      | none => rw [e] at q1; exact q1.elim
      | some b =>
        rw [e] at q1
        obtain ⟨nm, ty, kit⟩ := tyx_of S1 r1 (isinD_loc e)
        have e' : isTy G1 d t = some b := by
          unfold isTys isTys at e
          cases q : isTy G1 d t with
          | none => rw [q] at e; cases e
          | some c => rw [q] at e; simpa using e
        exact ⟨v, .ty (tyN t), .type nm, .type (tyN t), b, rfl, .ty _, ty, kit t b e', (Want.up e1 q1).bl S1⟩
    | [], hr => unfold ckTy at hr; cases hr
    | _ :: _ :: _, hr => unfold ckTy at hr; cases hr
  | Tuple es k p2 =>
    have hr : (ckTy.go C.sc ts es && decide (2 ≤ ts.length ∧ ts.length ≤ 9)) = true := by
      unfold ckTy at hr
      split at hr
      · rename_i e; cases e
      · rename_i e; cases e; exact hr
      · cases hr
    rw [Bool.and_eq_true] at hr
    have h29 : 2 ≤ ts.length ∧ ts.length ≤ 9 := of_decide_eq_true hr.2
    have h2 := h29.1
    obtain ⟨pt, st⟩ := pa_tys h hr.1
    have hst : ∀ y ∈ [l, Expr.Tuple es k p2], notStar y = true := fun y hy => by
      rcases List.mem_cons.mp hy with rfl | hy
      · exact hl
      · rw [List.mem_singleton.mp hy]; rfl
    refine pe_imp (pe_callB call_isiT g1 hm boot_isinstance (pa_cons ha (pa_cons (pe_tup pt) pa_nil rfl) (star_cons hl)) g3 g2 (star_cons hl) (star_plain fun y hy => hst y (List.mem_cons_of_mem _ hy))) fun σ H Q q => ?_
    obtain ⟨ρ, G, dσ, S, hs, q⟩ := q
    have q : Post (den (callN P n) a dσ >>= fun x => isinD x ts) G (Want X.K ρ H Q) (ExW X.K X.mg W σ ρ H) := q
    refine tI_of S hs Ext.refl q.bind fun d G1 v H1 ρ1 q1 S1 e1 r1 => ?_
    unfold Post isinD at q1
    cases e : isTys G1 d ts with
    | none => rw [e] at q1; exact q1.elim
    | some b =>
      rw [e] at q1
      have hloc : ∀ i, d = .loc i → ∃ o, G1[i]? = some o := by
        match ts, h2, e with
        | t :: ts, _, e => exact isinD_loc e
      refine ⟨?_, fun tp htp => ?_⟩
      · rw [List.length_map, sizeLine_eq]; have := h29.2; omega
      · have ex : Ext X.K ρ1 H1 ρ1 (upd H1 tp (.tup (ts.map fun t => V.ty (tyN t)))) := ext_upd (.inl htp)
        have S2 := S1.other (o := .tup (ts.map fun t => V.ty (tyN t))) htp
        obtain ⟨nm, ty, kit⟩ := tyx_of S2 (r1.ext ex) hloc
        exact ⟨v, tp, ts.map fun t => V.ty (tyN t), .type nm, ts.map fun t => Value.type (tyN t), b, rfl, upd_same, pclsv ts, ty, kitAny_of (K := X.K) kit (isTys G1 d) rfl (fun t ts => rfl) ts b e, (Want.up (e1.trans ex) q1).bl S2⟩
  | _ => exact absurd hr (by cases ts with
    | nil => simp [ckTy]
    | cons t ts => cases ts <;> simp [ckTy])
end
end OC

namespace OC
open PySem PySem.Spec PyProof.Rows L2
section
variable {P : Prg} {T : Tab} {n : Nat} {C : SC} {X : Cx} {W : WX}
abbrev tE (P : Prg) (n : Nat) (X : Cx) (W : WX) (ie : IE) : TE := tI X.K X.mg W (den (callN P n) ie)
abbrev tTe (P : Prg) (n : Nat) (X : Cx) (W : WX) (ie : IE) : TT := tT X.K X.mg W (den (callN P n) ie)
abbrev tEs (P : Prg) (n : Nat) (X : Cx) (W : WX) (es : IEs) : TA := tIs X.K X.mg W (denEs (callN P n) es)

theorem st_var (h : SX P T n C X) {i : Nat} {x : Str} {p : Pos} (hi : (match C.N[i]? with | some y => y == x | none => false) = true) (hv : visB C.sc x = true) : PE X (.Name x p) (tE P n X W (.v i)) := by
  obtain ⟨v1, v2, v3⟩ := h.vis hv
  refine pe_imp (pe_var (i := i) (h.at hi) v1 v2 v3) fun σ H Q q => ?_
  obtain ⟨ρ, G, dσ, S, hs, q⟩ := q
  have q : Post (fun G => (match dσ[i]? with
    | some (some d) => R.ok d G
    | _ => R.bad)) G (Want X.K ρ H Q) (ExW X.K X.mg W σ ρ H) := q
  unfold Post at q
  cases e : dσ[i]? with
  | none => simp only [e] at q
  | some o =>
    cases o with
    | none => simp only [e] at q
    | some d =>
      simp only [e] at q
      obtain ⟨v, hv1, hv2⟩ := hs.get i d e
      exact ⟨v, hv1, Want.self S hv2 q⟩
theorem st_gl (h : SX P T n C X) {x y : Str} {d : D} {p : Pos} (hx : (y == x) = true) (hg : glB C.sc x = true) (hc : T.gls.contains (x, d) = true) : PE X (.Name x p) (tE P n X W (.gl y d)) := by
  obtain ⟨g1, g2, g3⟩ := h.gl hg
  obtain ⟨v, u, hm, r, hr⟩ := h.gf.gls x d (by simpa using hc)
  exact pe_imp (pe_glob (v := v) g1 hm r g2) fun σ H Q q => tI_const (m := den (callN P n) (.gl y d)) (d := d) (fun _ => rfl) (fun ρ => hr ρ H) q
theorem st_tup {es : IEs} {xs : List Expr} {k : Nat} {p : Pos} (ha : PA X xs (tEs P n X W es)) : PE X (.Tuple xs k p) (tE P n X W (.tup es)) := by
  refine pe_imp (pe_tup ha) fun σ H Q q => ?_
  obtain ⟨ρ, G, dσ, S, hs, q⟩ := q
  have q : Post (denEs (callN P n) es dσ >>= mkT) G (Want X.K ρ H Q) (ExW X.K X.mg W σ ρ H) := q
  refine tIs_of S hs Ext.refl q.bind fun ds G1 vs H1 ρ1 q1 S1 e1 r1 => ?_
  obtain ⟨hz, w⟩ := mkT_of q1
  exact ⟨by rw [r1.length]; exact hz, (Want.up e1 w).tup S1 r1⟩
theorem st_lst {es : IEs} {xs : List Expr} {p : Pos} (ha : PA X xs (tEs P n X W es)) : PE X (.List xs p) (tE P n X W (.lst es)) := by
  refine pe_imp (pe_lst ha) fun σ H Q q => ?_
  obtain ⟨ρ, G, dσ, S, hs, q⟩ := q
  have q : Post (denEs (callN P n) es dσ >>= newL) G (Want X.K ρ H Q) (ExW X.K X.mg W σ ρ H) := q
  refine tIs_of S hs Ext.refl q.bind fun ds G1 vs H1 ρ1 q1 S1 e1 r1 => ?_
  exact newL_of S1 r1 (q1.mono (fun _ _ w => Want.up e1 w) fun _ _ _ x => x)
theorem st_op {o : Op2} {a b : IE} {l r : Expr} {q : Operator} {p : Pos} (hq : opB o q = true) (ha : PE X l (tE P n X W a)) (hb : PE X r (tE P n X W b)) : PE X (.BinOp l q r p) (tE P n X W (.op o a b)) := by
  have e := of_decide_eq_true hq
  subst e
  refine pe_imp (pe_op (op_D o) ha hb) fun σ H Q q => ?_
  obtain ⟨ρ, G, dσ, S, hs, q⟩ := q
  have q : Post (den (callN P n) a dσ >>= fun x => den (callN P n) b dσ >>= fun y => opD o x y) G (Want X.K ρ H Q) (ExW X.K X.mg W σ ρ H) := q
  refine tI_of S hs Ext.refl q.bind fun d G1 v H1 ρ1 q1 S1 e1 r1 => ?_
  refine tI_of S1 (hs.ext e1) e1 q1.bind fun d2 G2 v2 H2 ρ2 q2 S2 e2 r2 => ?_
  exact ⟨ρ2, G2, d, d2, S2, r1.ext e2, r2, (q2.nox (NoX.opD o d d2)).mono (fun _ _ w => Want.up (e1.trans e2) w) fun _ _ _ x => x⟩
theorem st_neg {a : IE} {l : Expr} {p : Pos} (ha : PE X l (tE P n X W a)) : PE X (.UnaryOp .USub l p) (tE P n X W (.neg a)) := by
  refine pe_imp (pe_un un_neg ha) fun σ H Q q => ?_
  obtain ⟨ρ, G, dσ, S, hs, q⟩ := q
  have q : Post (den (callN P n) a dσ >>= fun x => (match x with | .int i => mret (D.int (-i)) | _ => mbad)) G (Want X.K ρ H Q) (ExW X.K X.mg W σ ρ H) := q
  refine tI_of S hs Ext.refl q.bind fun d G1 v H1 ρ1 q1 S1 e1 r1 => ?_
  cases d with
  | int i => cases repI r1; exact ⟨i, rfl, (Want.up e1 q1.mret).int S1⟩
  | _ => exact q1.mbad.elim
theorem st_not {a : IE} {l : Expr} {p : Pos} (ha : PE X l (tE P n X W a)) : PE X (.UnaryOp .Not l p) (tE P n X W (.not a)) := by
  refine pe_imp (pe_not ha) fun σ H Q q => ?_
  obtain ⟨ρ, G, dσ, S, hs, q⟩ := q
  have q : Post (den (callN P n) a dσ >>= fun x => (match x with | .bl b => mret (D.bl (!b)) | _ => mbad)) G (Want X.K ρ H Q) (ExW X.K X.mg W σ ρ H) := q
  refine tI_of S hs Ext.refl q.bind fun d G1 v H1 ρ1 q1 S1 e1 r1 => ?_
  cases d with
  | bl i => cases repB r1; exact ⟨i, rfl, (Want.up e1 q1.mret).bl S1⟩
  | _ => exact q1.mbad.elim
theorem tt_not {a : IE} {l : Expr} {p : Pos} (ha : PT X l (tTe P n X W a)) : PT X (.UnaryOp .Not l p) (tTe P n X W (.not a)) := by
  refine pt_imp (pt_not ha) fun σ H Q q => ?_
  obtain ⟨ρ, G, dσ, S, hs, q⟩ := q
  have q : Post (den (callN P n) a dσ >>= fun x => (match x with | .bl b => mret (D.bl (!b)) | _ => mbad)) G (fun d G' => ∃ b, d = .bl b ∧ ∀ H' ρ', Sto X.K ρ' G' H' → Ext X.K ρ H ρ' H' → Q b H') (ExW X.K X.mg W σ ρ H) := q
  refine tT_of S hs Ext.refl q.bind (fun d G1 q1 => ?_) fun b G1 H1 ρ1 q1 S1 e1 => ?_
  · cases d with
    | bl i => exact ⟨i, rfl⟩
    | _ => exact q1.mbad.elim
  · obtain ⟨b', eb, k⟩ := q1.mret
    cases eb
    exact k H1 ρ1 S1 e1
theorem st_cmp (h : SX P T n C X) {o : Cmp} {a b : IE} {l r : Expr} {q : CmpOp} {p : Pos} (hq : cmpB o q = true) (hm : behindInMarks q r = false) (ha : PE X l (tE P n X W a)) (hb : PE X r (tE P n X W b)) :
    GE P n X W (.cmp o a b) (.Compare l [q] [r] p) := by
  have e := of_decide_eq_true hq
  subst e
  have hu : X.A.units + 70 < cLine := by have := h.units; omega
  have key : ∀ σ H Q, tE P n X W (.cmp o a b) σ H Q → tOp (rD2 X.K (cmpD o)) (tE P n X W a) (tE P n X W b) σ H Q := fun σ H Q q => by
    obtain ⟨ρ, G, dσ, S, hs, q⟩ := q
    have q : Post (den (callN P n) a dσ >>= fun x => den (callN P n) b dσ >>= fun y => cmpD o x y) G (Want X.K ρ H Q) (ExW X.K X.mg W σ ρ H) := q
    refine tI_of S hs Ext.refl q.bind fun d G1 v H1 ρ1 q1 S1 e1 r1 => ?_
    refine tI_of S1 (hs.ext e1) e1 q1.bind fun d2 G2 v2 H2 ρ2 q2 S2 e2 r2 => ?_
    exact ⟨ρ2, G2, d, d2, S2, r1.ext e2, r2, (q2.nox (NoX.cmpD o d d2)).mono (fun _ _ w => Want.up (e1.trans e2) w) fun _ _ _ x => x⟩
  refine ⟨pe_imp (pe_cmpR (op_cmpD hu o) ha hb hm) key, pt_imp (pt_cmpR (op_cmpD hu o) ha hb hm) fun σ H Q q => key σ H _ (tT_tB q)⟩
theorem st_ife {t a b : IE} {u l r : Expr} {p : Pos} (ht : PT X u (tTe P n X W t)) (ha : GE P n X W a l) (hb : GE P n X W b r) : GE P n X W (.ife t a b) (.IfExp u l r p) := by
  refine ⟨pe_imp (pe_ifExp ht ha.1 hb.1) fun σ H Q q => ?_, pt_imp (pt_ifE ht ha.2 hb.2) fun σ H Q q => ?_⟩
  · obtain ⟨ρ, G, dσ, S, hs, q⟩ := q
    have q : Post (den (callN P n) t dσ >>= fun x => (match x with | .bl true => den (callN P n) a dσ | .bl false => den (callN P n) b dσ | _ => mbad)) G (Want X.K ρ H Q) (ExW X.K X.mg W σ ρ H) := q
    refine tT_of S hs Ext.refl q.bind (fun d G1 q1 => ?_) fun c G1 H1 ρ1 q1 S1 e1 => ?_
    · cases d with
      | bl i => exact ⟨i, rfl⟩
      | _ => exact q1.mbad.elim
    · cases c with
      | true => exact tI_of S1 (hs.ext e1) e1 q1 fun d2 G2 v2 H2 ρ2 q2 S2 e2 r2 => Want.self S2 r2 (Want.up (e1.trans e2) q2)
      | false => exact tI_of S1 (hs.ext e1) e1 q1 fun d2 G2 v2 H2 ρ2 q2 S2 e2 r2 => Want.self S2 r2 (Want.up (e1.trans e2) q2)
  · obtain ⟨ρ, G, dσ, S, hs, q⟩ := q
    have q : Post (den (callN P n) t dσ >>= fun x => (match x with | .bl true => den (callN P n) a dσ | .bl false => den (callN P n) b dσ | _ => mbad)) G (fun d G' => ∃ b, d = .bl b ∧ ∀ H' ρ', Sto X.K ρ' G' H' → Ext X.K ρ H ρ' H' → Q b H') (ExW X.K X.mg W σ ρ H) := q
    refine tT_of S hs Ext.refl q.bind (fun d G1 q1 => ?_) fun c G1 H1 ρ1 q1 S1 e1 => ?_
    · cases d with
      | bl i => exact ⟨i, rfl⟩
      | _ => exact q1.mbad.elim
    · have key : ∀ {ie : IE}, Post (den (callN P n) ie dσ) G1 (fun d G' => ∃ b, d = .bl b ∧ ∀ H' ρ', Sto X.K ρ' G' H' → Ext X.K ρ H ρ' H' → Q b H') (ExW X.K X.mg W σ ρ H) → tTe P n X W ie σ H1 Q := fun q1 =>
        tT_of S1 (hs.ext e1) e1 q1 (fun d G2 ⟨b, eb, _⟩ => ⟨b, eb⟩) fun b G2 H2 ρ2 ⟨b', eb, k⟩ S2 e2 => by cases eb; exact k H2 ρ2 S2 (e1.trans e2)
      cases c with
      | true => exact key q1
      | false => exact key q1
theorem st_idx {a b : IE} {l r : Expr} {p : Pos} (hr : notSlice r = true) (ha : PE X l (tE P n X W a)) (hb : PE X r (tE P n X W b)) : PE X (.Subscript l r p) (tE P n X W (.idx a b)) := by
  have hp : PlainIx r := fun o i => by cases r <;> first | rfl | (simp [notSlice] at hr)
  refine pe_imp (pe_ix ix_D ha hb hp) fun σ H Q q => ?_
  obtain ⟨ρ, G, dσ, S, hs, q⟩ := q
  have q : Post (den (callN P n) a dσ >>= fun x => den (callN P n) b dσ >>= fun y => idxD x y) G (Want X.K ρ H Q) (ExW X.K X.mg W σ ρ H) := q
  refine tI_of S hs Ext.refl q.bind fun d G1 v H1 ρ1 q1 S1 e1 r1 => ?_
  refine tI_of S1 (hs.ext e1) e1 q1.bind fun d2 G2 v2 H2 ρ2 q2 S2 e2 r2 => ?_
  exact ⟨ρ2, G2, d, d2, S2, r1.ext e2, r2, (q2.nox (NoX.idxD d d2)).mono (fun _ _ w => Want.up (e1.trans e2) w) fun _ _ _ x => x⟩
theorem st_kidx (h : SX P T n C X) {x y : Str} {tbl : List (D × D)} {b : IE} {r : Expr} {px p : Pos} (hx : (y == x) = true) (hg : glB C.sc x = true) (hr : notSlice r = true) (ht : T.kds.contains (x, tbl) = true) (hb : PE X r (tE P n X W b)) :
    PE X (.Subscript (.Name x px) r p) (tE P n X W (.kidx y tbl b)) := by
  have hp : PlainIx r := fun o i => by cases r <;> first | rfl | (simp [notSlice] at hr)
  obtain ⟨g1, g2, g3⟩ := h.gl hg
  obtain ⟨a, hm, hk⟩ := h.gf.kds x tbl (by simpa using ht)
  have hu : X.A.units + 70 < cLine := by have := h.units; omega
  have ix : IxR X (fun xv yv H Q => xv = .ref a ∧ ∃ ρ G b, Sto X.K ρ G H ∧ RepV X.K ρ H b yv ∧ Post (kidxD tbl b) G (Want X.K ρ H Q) noex) := by
    intro value slice pins s σ H xv yv v u Q I rx ry q hs
    obtain ⟨rfl, q⟩ := q
    obtain rfl : v = Value.ref a := rx
    obtain ⟨t1, t2⟩ := hk X rfl rfl rfl hu pins s σ H yv u Q I ry q
    exact tail_any t1 PySem.F.slot_dict_getitem.lookup t2 hs
  refine pe_imp (pe_ix ix (pe_glob (v := .ref a) g1 hm rfl g2) hb hp) fun σ H Q q => ?_
  obtain ⟨ρ, G, dσ, S, hs, q⟩ := q
  have q : Post (den (callN P n) b dσ >>= fun y => kidxD tbl y) G (Want X.K ρ H Q) (ExW X.K X.mg W σ ρ H) := q
  refine tI_of S hs Ext.refl q.bind fun d2 G2 v2 H2 ρ2 q2 S2 e2 r2 => ?_
  exact ⟨rfl, ρ2, G2, d2, S2, r2, (q2.nox (NoX.kidxD tbl d2)).mono (fun _ _ w => Want.up e2 w) fun _ _ _ x => x⟩
theorem st_slice {a : IE} {lo hi : IO} {l : Expr} {u v : Option Expr} {p2 p : Pos} (ha : PE X l (tE P n X W a)) (hl : PO X u (tO X.K X.mg W (denO (callN P n) lo))) (hh : PO X v (tO X.K X.mg W (denO (callN P n) hi))) :
    PE X (.Subscript l (.Slice u v none p2) p) (tE P n X W (.slice a lo hi)) := by
  refine pe_imp (pe_slice sl_D ha hl hh) fun σ H Q q => ?_
  obtain ⟨ρ, G, dσ, S, hs, q⟩ := q
  have q : Post (den (callN P n) a dσ >>= fun x => denO (callN P n) lo dσ >>= fun l => denO (callN P n) hi dσ >>= fun h => sliceD x l h) G (Want X.K ρ H Q) (ExW X.K X.mg W σ ρ H) := q
  refine tI_of S hs Ext.refl q.bind fun d G1 v H1 ρ1 q1 S1 e1 r1 => ?_
  refine tO_of S1 (hs.ext e1) e1 q1.bind fun o2 G2 H2 ρ2 q2 S2 e2 => ?_
  refine tO_of S2 ((hs.ext e1).ext e2) (e1.trans e2) q2.bind fun o3 G3 H3 ρ3 q3 S3 e3 => ?_
  exact ⟨ρ3, G3, d, S3, (r1.ext e2).ext e3, (q3.nox (NoX.sliceD d o2 o3)).mono (fun _ _ w => Want.up ((e1.trans e2).trans e3) w) fun _ _ _ x => x⟩
theorem st_rev {a : IE} {l : Expr} {k : Nat} {p1 p2 p3 p : Pos} (ha : PE X l (tE P n X W a)) : PE X (.Subscript l (.Slice none none (some (.UnaryOp .USub (.Constant (.int 1) k p1) p2)) p3) p) (tE P n X W (.rev a)) := by
  refine pe_imp (pe_revT ha) fun σ H Q q => ?_
  obtain ⟨ρ, G, dσ, S, hs, q⟩ := q
  have q : Post (den (callN P n) a dσ >>= revD) G (Want X.K ρ H Q) (ExW X.K X.mg W σ ρ H) := q
  refine tI_of S hs Ext.refl q.bind fun d G1 v H1 ρ1 q1 S1 e1 r1 => ?_
  cases d with
  | tup xs =>
    obtain ⟨a, vs, rfl, h2, h3⟩ := repT r1
    have w : Want X.K ρ H Q (.tup xs.reverse) G1 := q1
    exact ⟨a, vs, rfl, h2, (Want.up e1 w).tup S1 h3.rev⟩
  | _ => exact q1.elim
theorem st_bi (h : SX P T n C X) {b : Bi} {es : IEs} {x : Str} {e : Expr} {xs : List Expr} {px p : Pos} (hx : (x == biN b) = true) (hg : glB C.sc x = true) (hok : biOk b = true) (hcalm : (!biC b || C.calm) = true)
    (hst : ∀ y ∈ e :: xs, notStar y = true) (ha : PA X (e :: xs) (tEs P n X W es)) : PE X (.Call (.Name x px) (e :: xs) [] p) (tE P n X W (.bi b es)) := by
  have ex := beq_iff_eq.mp hx
  subst ex
  refine pe_imp (pe_bi h hg hok hcalm ha hst) fun σ H Q q => ?_
  obtain ⟨ρ, G, dσ, S, hs, q⟩ := q
  have q : Post (denEs (callN P n) es dσ >>= biD b) G (Want X.K ρ H Q) (ExW X.K X.mg W σ ρ H) := q
  refine tIs_of S hs Ext.refl q.bind fun ds G1 vs H1 ρ1 q1 S1 e1 r1 => ?_
  exact ⟨ρ1, G1, ds, S1, r1, (q1.nox (NoX.biD b ds)).mono (fun _ _ w => Want.up e1 w) fun _ _ _ x => x⟩
theorem simple_base {l : Expr} {x : Str} {env : Env} {whole : Sem Value} (h : simpleB l = true) : attributeBase l x env whole = whole := by
  cases l <;> first | rfl | (simp [simpleB] at h)
theorem few_ok {cpos : Pos} {env : Env} {es : List Expr} (hst : ∀ y ∈ es, notStar y = true) (hl : es.length < 20) :
    ((backTo cpos (starEach es env)).all (fun x => !x.1) && (backToKw cpos (keywordEach [] env)).all (fun x => x.1.isSome)
      && decide (es.length + ([] : List Keyword).length + (if ([] : List Keyword).isEmpty then 0 else 1) < 30)) = true := by
  have h1 : (backTo cpos (starEach es env)).all (fun x => !x.1) = true := by
    rw [List.all_eq_not_any_not]
    have := star_plain (pos := cpos) (env := env) hst
    simp only [Bool.not_not]
    rw [this]; rfl
  rw [h1]
  have h2 : (backToKw cpos (keywordEach [] env)).all (fun x => x.1.isSome) = true := rfl
  rw [h2]
  simp only [Bool.true_and, decide_eq_true_eq, List.length_nil, List.isEmpty_nil, if_true]
  omega
theorem st_meth {m : Mt} {o : IE} {es : IEs} {l e : Expr} {x : Str} {xs : List Expr} {apos p : Pos} (hx : (x == mtN m) = true) (hs : simpleB l = true) (hline : apos.endLine = p.line) (hlen : (e :: xs).length < 20)
    (hst : ∀ y ∈ e :: xs, notStar y = true) (ho : PE X l (tE P n X W o)) (ha : PA X (e :: xs) (tEs P n X W es)) : PE X (.Call (.Attribute l x apos) (e :: xs) [] p) (tE P n X W (.meth m o es)) := by
  have ex := beq_iff_eq.mp hx
  subst ex
  have he : starEach (e :: xs) X.env = (false, eval e X.env) :: starEach xs X.env := star_cons (hst e List.mem_cons_self)
  have hpl : (backTo p (starEach xs X.env)).any (·.1) = false := star_plain fun y hy => hst y (List.mem_cons_of_mem _ hy)
  have hl : (apos.endLine == p.line) = true := by rw [hline]; exact beq_self_eq_true _
  have key : ∀ σ H Q, tE P n X W (.meth m o es) σ H Q → tBM X.K "list" (rMt X.K m) (tE P n X W o) (tEs P n X W es) σ H Q := fun σ H Q q => by
    obtain ⟨ρ, G, dσ, S, hs, q⟩ := q
    have q : Post (den (callN P n) o dσ >>= fun x => (match x with
      | .loc i => denEs (callN P n) es dσ >>= fun ds => methD m (.loc i) ds
      | _ => mbad)) G (Want X.K ρ H Q) (ExW X.K X.mg W σ ρ H) := q
    refine tI_of S hs Ext.refl q.bind fun d G1 v H1 ρ1 q1 S1 e1 r1 => ?_
    cases d with
    | loc i =>
      obtain ⟨a, rfl, ha⟩ := repL r1
      have hl : i < G1.length := by rw [← S1.len]; exact (List.getElem?_eq_some_iff.mp ha).1
      obtain ⟨xs⟩ : GO := G1[i]
      have e0 : G1[i]? = some (G1[i]) := by simp [hl]
      cases e2 : G1[i] with
      | lst ys =>
        rw [e2] at e0
        obtain ⟨a', vs, h1, h2, h3⟩ := S1.lst e0
        rw [ha] at h1; cases h1
        refine ⟨.inl ⟨rfl, vs, SqL.of h2⟩, ?_⟩
        refine tIs_of S1 (hs.ext e1) e1 q1.bind fun ds G2 ws H2 ρ2 q2 S2 e2 r2 => ?_
        exact ⟨ρ2, G2, .loc i, ds, S2, r1.ext e2, r2, (q2.nox (NoX.methD m _ ds)).mono (fun _ _ w => Want.up (e1.trans e2) w) fun _ _ _ x => x⟩
    | _ => exact q1.mbad.elim
  cases m with
  | append => exact pe_imp (pe_bm PySem.F.plainAttrs_list PySem.F.slot_list_append PySem.F.type_list_append mt_appendD ho ha (simple_base hs) (few_ok hst hlen) hl he hpl) key
  | extend => exact pe_imp (pe_bm PySem.F.plainAttrs_list PySem.F.slot_list_extend PySem.F.type_list_extend mt_extendD ho ha (simple_base hs) (few_ok hst hlen) hl he hpl) key
  | index => exact pe_imp (pe_bm PySem.F.plainAttrs_list PySem.F.slot_list_index PySem.F.type_list_index mt_indexL ho ha (simple_base hs) (few_ok hst hlen) hl he hpl) key
/-- a def's call -/
theorem st_call (h : SX P T n C X) (hcalm : C.calm = true) {f : Nat} {fn : Fn} {es ks : IEs} {x : Str} {e : Expr} {xs : List Expr} {px p : Pos} (tk : Takes X W) (hf : P[f]? = some fn) (hx : fn.name = x) (hg : glB C.sc x = true)
    (hst : ∀ y ∈ e :: xs, notStar y = true) (ha : PA X (e :: xs) (tEs P n X W es)) : PE X (.Call (.Name x px) (e :: xs) [] p) (tE P n X W (.call f es [] ks)) := by
  subst hx
  obtain ⟨g1, g2, g3⟩ := h.gl hg
  obtain ⟨a, fd, hm, hk, F, hb, _⟩ := h.ff.fn f fn hf
  have he : starEach (e :: xs) X.env = (false, eval e X.env) :: starEach xs X.env := star_cons (hst e List.mem_cons_self)
  have hpl : (backTo p (starEach xs X.env)).any (·.1) = false := star_plain fun y hy => hst y (List.mem_cons_of_mem _ hy)
  refine ⟨fun pins s σ H Q I q => ?_⟩
  refine wpAny_Call_Name_kw (ld_glob I g1 hm ?_ g2)
  obtain ⟨ρ, G, dσ, S, hs, q⟩ := q
  have q : Post (denEs (callN P n) es dσ >>= fun ds => callN P n f ds) G (Want X.K ρ H Q) (ExW X.K X.mg W σ ρ H) := q
  refine PySem.W.callWith_K (K := X.K) (h₀ := X.base) I.ok.mod.kin hk (thn (ha.run p pins s σ H (fun vs H1 => ∃ ρ1 G1 ds, Sto X.K ρ1 G1 H1 ∧ Ext X.K ρ H ρ1 H1 ∧ RepVs X.K ρ1 H1 ds vs ∧ Post (callN P n f ds) G1 (Want X.K ρ H Q) (ExW X.K X.mg W σ ρ H)) I
    (tIs_of S hs Ext.refl q.bind fun ds G1 vs H1 ρ1 q1 S1 e1 r1 => ⟨ρ1, G1, ds, S1, e1, r1, q1⟩)) fun us s1 ⟨vs, H1, I1, rv, hq⟩ => ⟨I1.kIn, ?_⟩) he hpl
  obtain ⟨ρ1, G1, ds, S1, e1, r1, q1⟩ := hq
  have sp : spOf X.K X.mg (callN P n f) fn.params.length vs H1 Q (WE W σ) := ⟨ρ1, G1, ds, S1, r1, callN_len q1 hf, q1.mono (fun _ _ w => Want.up e1 w) fun c f G2 w cls d H' ρ' S' e' r' => w cls d H' ρ' S' (e1.trans e') r'⟩
  have hul : (us ++ []).length = fn.params.length := by rw [List.append_nil, ← rv.length]; exact F.len _ _ _ _ sp
  have b3 := hb s1 us I1.kIn hul
  rw [List.append_nil] at b3
  refine wpAny_call (codeAny_mono (F.run X.A X.stack s1 H1 ⟨us, []⟩ us vs Q (WE W σ) h.guards (h.calm hcalm).2 I1.env0 b3 rv sp) fun r s' hq => ?_)
  cases r with
  | error e => exact passAt tk σ pins H1 s1 e s' I1 hq
  | ok fl =>
    cases fl with
    | ret u => exact I1.after hq
    | next => exact False.elim hq
    | brk => exact False.elim hq
    | cont => exact False.elim hq
end
/-! ### keywords: the order of the parameters -/
theorem mapM_rel {α β : Type} {R : α → β → Prop} {f : Nat → Option α} {g : Nat → Option β} (h : ∀ i a, f i = some a → ∃ b, g i = some b ∧ R a b) : ∀ (l : List Nat) (xs : List α), l.mapM f = some xs → ∃ ys, l.mapM g = some ys ∧ Paired R xs ys
  | [], xs, e => by
    simp at e; subst e
    exact ⟨[], by simp, .nil⟩
  | i :: l, xs, e => by
    rw [List.mapM_cons] at e
    cases e1 : f i with
    | none => rw [e1] at e; cases e
    | some a =>
      rw [e1] at e
      cases e2 : l.mapM f with
      | none => rw [e2] at e; cases e
      | some as =>
        rw [e2] at e
        have e : some (a :: as) = some xs := e
        cases e
        obtain ⟨b, h1, h2⟩ := h i a e1
        obtain ⟨ys, h3, h4⟩ := mapM_rel h l as e2
        exact ⟨b :: ys, by rw [List.mapM_cons, h1, h3]; rfl, .cons h2 h4⟩
theorem paired_get {α β : Type} {R : α → β → Prop} : ∀ {xs : List α} {ys : List β} {i : Nat} {a : α}, Paired R xs ys → xs[i]? = some a → ∃ b, ys[i]? = some b ∧ R a b
  | _, _, _, _, .nil, e => by simp at e
  | _, _, 0, _, .cons r _, e => by simp at e; subst e; exact ⟨_, rfl, r⟩
  | _, _, i + 1, _, .cons _ t, e => by
    obtain ⟨b, h1, h2⟩ := paired_get (i := i) t (by simpa using e)
    exact ⟨b, by simpa using h1, h2⟩
theorem paired_lookup {α β : Type} {R : α → β → Prop} : ∀ {ks : List Nat} {xs : List α} {ys : List β} {i : Nat} {a : α}, Paired R xs ys → (ks.zip xs).lookup i = some a → ∃ b, (ks.zip ys).lookup i = some b ∧ R a b
  | [], _, _, _, _, _, e => by simp at e
  | k :: ks, _, _, _, _, .nil, e => by simp at e
  | k :: ks, _, _, i, a, .cons r t, e => by
    rw [List.zip_cons_cons, List.lookup_cons] at e ⊢
    cases hb : i == k with
    | true => rw [hb] at e; cases e; exact ⟨_, rfl, r⟩
    | false => rw [hb] at e; exact paired_lookup t e
theorem paired_len {α β : Type} {R : α → β → Prop} {xs : List α} {ys : List β} (h : Paired R xs ys) : xs.length = ys.length := Paired.length h
theorem reorder_rel {α β : Type} {R : α → β → Prop} {kws : List Nat} {ds ks : List α} {us ws : List β} {xs : List α} (h1 : Paired R ds us) (h2 : Paired R ks ws) (h : reorder kws ds ks = some xs) : ∃ ys, reorder kws us ws = some ys ∧ Paired R xs ys := by
  unfold reorder at h ⊢
  rw [← paired_len h1, ← paired_len h2]
  refine mapM_rel (fun i a e => ?_) _ xs h
  by_cases hi : i < ds.length
  · simp only [hi, if_true] at e ⊢
    exact paired_get h1 e
  · simp only [hi, if_false] at e ⊢
    exact paired_lookup h2 e
theorem RepVs.paired {K : PySem.W.Frag} {ρ : List Addr} {H : Hp} : ∀ {ds : List D} {vs : List V}, RepVs K ρ H ds vs → Paired (RepV K ρ H) ds vs
  | [], vs, r => by rw [show vs = [] from r]; exact .nil
  | d :: ds, vs, r => by
    obtain ⟨v, w, rfl, r1, r2⟩ := r
    exact .cons r1 (RepVs.paired r2)
theorem RepVs.of_paired {K : PySem.W.Frag} {ρ : List Addr} {H : Hp} : ∀ {ds : List D} {vs : List V}, Paired (RepV K ρ H) ds vs → RepVs K ρ H ds vs
  | _, _, .nil => rfl
  | _, _, .cons r t => ⟨_, _, rfl, r, RepVs.of_paired t⟩
section
variable {P : Prg} {T : Tab} {n : Nat} {C : SC} {X : Cx} {W : WX}
theorem kw_names {ps : List Str} {env : Env} {pos : Pos} : ∀ {is : List Nat} {kws : List Keyword}, ckKw ps is kws = true → ∃ ks : List Str, (backToKw pos (keywordEach kws env)).all (·.1.isSome) = true ∧ (backToKw pos (keywordEach kws env)).any (·.1.isNone) = false ∧ (backToKw pos (keywordEach kws env)).filterMap (·.1) = ks ∧
    is.map (fun j => ps[j]?) = ks.map some ∧ is.length = kws.length
  | [], [], _ => ⟨[], rfl, rfl, rfl, rfl, rfl⟩
  | i :: is, ⟨some x, e, p⟩ :: kws, g => by
    unfold ckKw at g
    simp only [Bool.and_eq_true] at g
    obtain ⟨ks, h1, h2, h3, h4, h5⟩ := kw_names (env := env) (pos := pos) (is := is) (kws := kws) g.2
    refine ⟨x :: ks, ?_, ?_, ?_, ?_, by simp [h5]⟩
    · show (true && (backToKw pos (keywordEach kws env)).all (·.1.isSome)) = true
      rw [h1]; rfl
    · show (false || (backToKw pos (keywordEach kws env)).any (·.1.isNone)) = false
      rw [h2]; rfl
    · show x :: (backToKw pos (keywordEach kws env)).filterMap (·.1) = _
      rw [h3]
    · simp only [List.map_cons, h4]
      cases e1 : ps[i]? with
      | none => rw [e1] at g; simp at g
      | some y => rw [e1] at g; rw [beq_iff_eq.mp g.1]
  | [], k :: kws, g => by unfold ckKw at g; cases g
  | i :: is, [], g => by unfold ckKw at g; cases g
  | i :: is, ⟨none, _, _⟩ :: kws, g => by unfold ckKw at g; cases g
theorem Post.of_bind {α β : Type} {m : M α} {f : α → M β} {G : GH} {ok : β → GH → Prop} {ex : Str → Option D → GH → Prop} (h : Post m G (fun a G1 => Post (f a) G1 ok ex) ex) : Post (m >>= f) G ok ex := by
  show Post (mbind m f) G ok ex
  unfold Post mbind
  unfold Post at h
  cases e : m G with
  | ok a G1 => rw [e] at h; exact h
  | exn c v G1 => rw [e] at h; exact h
  | bad => rw [e] at h; exact h
def lenEs : IEs → Nat
  | .nil => 0
  | .cons _ es => lenEs es + 1
theorem ckEs_len {T : Tab} {C : SC} : ∀ {es : IEs} {xs : List Expr}, ckEs T C es xs = true → xs.length = lenEs es
  | .nil, [], _ => rfl
  | .nil, _ :: _, h => by unfold ckEs at h; cases h
  | .cons e es, [], h => by unfold ckEs at h; cases h
  | .cons e es, x :: xs, h => by
    unfold ckEs at h
    simp only [Bool.and_eq_true] at h
    simp [lenEs, ckEs_len h.2]
theorem denEs_len {c : Calls} {σ : Env'} : ∀ {es : IEs} {G : GH} {ok : List D → GH → Prop} {ex : Str → Option D → GH → Prop}, Post (denEs c es σ) G ok ex → Post (denEs c es σ) G (fun ds G' => ok ds G' ∧ ds.length = lenEs es) ex
  | .nil, G, ok, ex, h => ⟨h, rfl⟩
  | .cons e es, G, ok, ex, h => by
    have h : Post (den c e σ >>= fun x => denEs c es σ >>= fun xs => mret (x :: xs)) G ok ex := h
    show Post (den c e σ >>= fun x => denEs c es σ >>= fun xs => mret (x :: xs)) G _ ex
    refine Post.of_bind (h.bind.mono (fun x G1 h1 => Post.of_bind ((denEs_len h1.bind).mono (fun xs G2 h2 => ?_) fun _ _ _ y => y)) fun _ _ _ y => y)
    exact ⟨h2.1, by simp [lenEs, h2.2]⟩
/-- f(a, .., k = b, ..) -/
theorem st_callK (h : SX P T n C X) (hcalm : C.calm = true) {f : Nat} {fn : Fn} {es ks : IEs} {x : Str} {xs : List Expr} {kwl : List Keyword} {i0 : Nat} {is : List Nat} {px p : Pos} (tk : Takes X W) (hf : P[f]? = some fn) (hx : fn.name = x) (hg : glB C.sc x = true)
    (hT : (f, lenEs es, i0 :: is) ∈ T.kws) (hkw : ckKw fn.params (i0 :: is) kwl = true) (hlk : kwl.length = lenEs ks) (h0 : xs = [] → es = .nil)
    (hst : ∀ y ∈ xs, notStar y = true) (ha : PA X xs (tEs P n X W es)) (hk' : PK X kwl (tEs P n X W ks)) : PE X (.Call (.Name x px) xs kwl p) (tE P n X W (.call f es (i0 :: is) ks)) := by
  subst hx
  obtain ⟨g1, g2, g3⟩ := h.gl hg
  obtain ⟨a, fd, hm, hk, F, hb, hkb⟩ := h.ff.fn f fn hf
  obtain ⟨nms, n1, n2, n3, n4, n5⟩ := kw_names (env := X.env) (pos := p) hkw
  refine ⟨fun pins s σ H Q I q => ?_⟩
  refine wpAny_Call_Name_kw (ld_glob I g1 hm ?_ g2)
  obtain ⟨ρ, G, dσ, S, hs, q⟩ := q
  have q : Post (denEs (callN P n) es dσ >>= fun ds => (denEs (callN P n) ks dσ >>= fun us => (match reorder (i0 :: is) ds us with
      | some zs => callN P n f zs
      | none => mbad))) G (Want X.K ρ H Q) (ExW X.K X.mg W σ ρ H) := q
  -- behind the arguments
  have last : ∀ (us ws : List Value) (vs zs : List V) (s2 : Shared) (H2 : Hp), Inv X pins σ H2 s2 → Vals vs us → Vals zs ws →
      (∃ ρ2 G2 ds ks', Sto X.K ρ2 G2 H2 ∧ Ext X.K ρ H ρ2 H2 ∧ RepVs X.K ρ2 H2 ds vs ∧ RepVs X.K ρ2 H2 ks' zs ∧ ds.length = lenEs es ∧ ks'.length = lenEs ks ∧ Post (match reorder (i0 :: is) ds ks' with
      | some zs => callN P n f zs
      | none => mbad) G2 (Want X.K ρ H Q) (ExW X.K X.mg W σ ρ H)) → wpAny (model X.prog X.w) X.A (call (.ref a) us (nms.zip ws)) (EP X pins σ Q) X.xe s2 := fun us ws vs zs s2 H2 I2 rv rz hq => by
    obtain ⟨ρ2, G2, ds, ks', S2, e2, r1, r2, l1, l2, hq⟩ := hq
    cases ez : reorder (i0 :: is) ds ks' with
    | none => rw [ez] at hq; exact hq.mbad.elim
    | some as =>
      rw [ez] at hq
      obtain ⟨xs', k1, k2⟩ := reorder_rel r1.paired r2.paired ez
      obtain ⟨as', k3, k4⟩ := reorder_rel (R := RelV) rv rz k1
      have hul : us.length = lenEs es := by rw [← rv.length, r1.length, l1]
      have hwl : ws.length = (i0 :: is).length := by rw [n5, ← rz.length, r2.length, l2, hlk]
      have b3 := hkb (lenEs es) (i0 :: is) hT nms n4 s2 us ws as' I2.kIn hul hwl k3
      have sp : spOf X.K X.mg (callN P n f) fn.params.length xs' H2 Q (WE W σ) := ⟨ρ2, G2, as, S2, RepVs.of_paired k2, callN_len hq hf, hq.mono (fun _ _ w => Want.up e2 w) fun c f G2 w cls d H' ρ' S' e' r' => w cls d H' ρ' S' (e2.trans e') r'⟩
      refine wpAny_call (codeAny_mono (F.run X.A X.stack s2 H2 ⟨us, nms.zip ws⟩ as' xs' Q (WE W σ) h.guards (h.calm hcalm).2 I2.env0 b3 k4 sp) fun r s' hq => ?_)
      cases r with
      | error e => exact passAt tk σ pins H2 s2 e s' I2 hq
      | ok fl =>
        cases fl with
        | ret u => exact I2.after hq
        | next => exact False.elim hq
        | brk => exact False.elim hq
        | cont => exact False.elim hq
  -- the keywords
  have kwp : ∀ (us : List Value) (vs : List V) (s1 : Shared) (H1 : Hp), Inv X pins σ H1 s1 → Vals vs us → (∃ ρ1 G1 ds, Sto X.K ρ1 G1 H1 ∧ Ext X.K ρ H ρ1 H1 ∧ RepVs X.K ρ1 H1 ds vs ∧ ds.length = lenEs es ∧ Post (denEs (callN P n) ks dσ >>= fun us => (match reorder (i0 :: is) ds us with
      | some zs => callN P n f zs
      | none => mbad)) G1 (Want X.K ρ H Q) (ExW X.K X.mg W σ ρ H)) →
      wpAny (model X.prog X.w) X.A (evalAll ((backToKw p (keywordEach kwl X.env)).map (·.2))) (fun ws s2 => X.K.In s2.heap ∧ wpAny (model X.prog X.w) X.A (call (.ref a) us (((backToKw p (keywordEach kwl X.env)).filterMap (·.1)).zip ws)) (EP X pins σ Q) X.xe s2) X.xe s1 := fun us vs s1 H1 I1 rv hq => by
    obtain ⟨ρ1, G1, ds, S1, e1, r1, l1, hq⟩ := hq
    refine thn (hk'.run p pins s1 σ H1 (fun zs H2 => ∃ ρ2 G2 ds ks', Sto X.K ρ2 G2 H2 ∧ Ext X.K ρ H ρ2 H2 ∧ RepVs X.K ρ2 H2 ds vs ∧ RepVs X.K ρ2 H2 ks' zs ∧ ds.length = lenEs es ∧ ks'.length = lenEs ks ∧ Post (match reorder (i0 :: is) ds ks' with
      | some zs => callN P n f zs
      | none => mbad) G2 (Want X.K ρ H Q) (ExW X.K X.mg W σ ρ H)) I1 (tIs_of S1 (hs.ext e1) e1 (denEs_len hq.bind) fun ks' G2 zs H2 ρ2 q2 S2 e2 r2 => ⟨ρ2, G2, ds, ks', S2, e1.trans e2, r1.ext e2, r2, l1, q2.2, q2.1⟩)) fun ws s2 ⟨zs, H2, I2, rz, hz⟩ => ⟨I2.kIn, ?_⟩
    rw [n3]
    exact last us ws vs zs s2 H2 I2 rv rz hz
  cases xs with
  | nil =>
    refine PySem.W.callWith_KW0 (h₀ := X.base) (K := X.K) I.ok.mod.kin hk n1 ?_ (by rw [n2]; rfl)
    have e0 := h0 rfl
    subst e0
    exact kwp [] [] s H I .nil ⟨ρ, G, [], S, Ext.refl, rfl, rfl, q.bind.mret⟩
  | cons e es' =>
    have he : starEach (e :: es') X.env = (false, eval e X.env) :: starEach es' X.env := star_cons (hst e List.mem_cons_self)
    refine PySem.W.callWith_KW (h₀ := X.base) (K := X.K) I.ok.mod.kin hk n1 (thn (ha.run p pins s σ H (fun vs H1 => ∃ ρ1 G1 ds, Sto X.K ρ1 G1 H1 ∧ Ext X.K ρ H ρ1 H1 ∧ RepVs X.K ρ1 H1 ds vs ∧ ds.length = lenEs es ∧ Post (denEs (callN P n) ks dσ >>= fun us => (match reorder (i0 :: is) ds us with
      | some zs => callN P n f zs
      | none => mbad)) G1 (Want X.K ρ H Q) (ExW X.K X.mg W σ ρ H)) I (tIs_of S hs Ext.refl (denEs_len q.bind) fun ds G1 vs H1 ρ1 q1 S1 e1 r1 => ⟨ρ1, G1, ds, S1, e1, r1, q1.2, q1.1⟩)) fun us s1 ⟨vs, H1, I1, rv, hq⟩ => ?_) (by rw [star_plain hst, n2]; rfl) he
    exact kwp us vs s1 H1 I1 rv hq
end
end OC

namespace OC
open PySem PySem.Spec PyProof.Rows L2
section
variable {P : Prg} {T : Tab} {n : Nat} {C : SC} {X : Cx} {W : WX}
inductive AllGE (P : Prg) (n : Nat) (X : Cx) (W : WX) : IEs → List Expr → Prop where
  | nil : AllGE P n X W .nil []
  | cons {e : IE} {es : IEs} {x : Expr} {xs : List Expr} : notStar x = true → GE P n X W e x → AllGE P n X W es xs → AllGE P n X W (.cons e es) (x :: xs)
theorem AllGE.star {es : IEs} {xs : List Expr} (h : AllGE P n X W es xs) : ∀ x ∈ xs, notStar x = true := by
  induction h with
  | nil => simp
  | cons h1 h2 h3 ih =>
    intro y hy
    rcases List.mem_cons.mp hy with rfl | hy
    · exact h1
    · exact ih y hy
theorem tEs_nil {σ : L2.St} {H : Hp} {Q : List V → Hp → Prop} (q : tEs P n X W .nil σ H Q) : tNil σ H Q := by
  obtain ⟨ρ, G, dσ, S, hs, q⟩ := q
  exact q.mret [] H ρ S Ext.refl rfl
theorem tEs_cons {e : IE} {es : IEs} {σ : L2.St} {H : Hp} {Q : List V → Hp → Prop} (q : tEs P n X W (.cons e es) σ H Q) : tCons (tE P n X W e) (tEs P n X W es) σ H Q := by
  obtain ⟨ρ, G, dσ, S, hs, q⟩ := q
  have q : Post (den (callN P n) e dσ >>= fun x => denEs (callN P n) es dσ >>= fun xs => mret (x :: xs)) G (fun ds G' => ∀ vs H' ρ', Sto X.K ρ' G' H' → Ext X.K ρ H ρ' H' → RepVs X.K ρ' H' ds vs → Q vs H') (ExW X.K X.mg W σ ρ H) := q
  refine tI_of S hs Ext.refl q.bind fun d G1 v H1 ρ1 q1 S1 e1 r1 => ?_
  refine tIs_of S1 (hs.ext e1) e1 q1.bind fun ds G2 vs H2 ρ2 q2 S2 e2 r2 => ?_
  exact q2.mret (v :: vs) H2 ρ2 S2 (e1.trans e2) ⟨v, vs, rfl, r1.ext e2, r2⟩
theorem AllGE.pa {es : IEs} {xs : List Expr} (h : AllGE P n X W es xs) : PA X xs (tEs P n X W es) := by
  induction h with
  | nil => exact pa_imp pa_nil fun σ H Q q => tEs_nil q
  | cons h1 h2 h3 ih => exact pa_imp (pa_cons h2.1 ih (star_cons h1)) fun σ H Q q => tEs_cons q
theorem AllGE.pk : ∀ {kwl : List Keyword} {es : IEs}, AllGE P n X W es (kwl.map (·.value)) → PK X kwl (tEs P n X W es)
  | [], es, h => by
    cases h
    exact pk_imp pk_nil fun σ H Q q => tEs_nil q
  | ⟨nm, e, p⟩ :: kwl, es, h => by
    cases h with
    | cons h1 h2 h3 => exact pk_imp (pk_cons h2.1 (AllGE.pk h3)) fun σ H Q q => tEs_cons q
/-- and, or -/
theorem st_bool {w : Bool} {p : Pos} : ∀ {es : IEs} {xs : List Expr}, AllGE P n X W es xs → PE X (.BoolOp (if w then .And else .Or) xs p) (tI X.K X.mg W (denB (callN P n) w es)) ∧ PW X (.BoolOp (if w then .And else .Or) xs p) (tT X.K X.mg W (denB (callN P n) w es))
  | .nil, _, .nil => ⟨⟨fun pins s σ H Q I q => by
      obtain ⟨ρ, G, dσ, S, hs, q⟩ := q
      exact q.mbad.elim⟩, ⟨fun wh pins s σ H Q I q => by
      obtain ⟨ρ, G, dσ, S, hs, q⟩ := q
      exact q.mbad.elim⟩⟩
  | .cons e .nil, _, .cons (x := x) h1 h2 .nil => by
    refine ⟨pe_imp (pe_one h2.1) fun σ H Q q => q, ?_⟩
    cases w with
    | true => exact pw_imp (pw_and1 h2.2) fun σ H Q q => q
    | false => exact pw_imp (pw_or1 h2.2) fun σ H Q q => q
  | .cons e (.cons e2 es), _, .cons (x := x) h1 h2 (.cons (x := x2) (xs := xs) k1 k2 k3) => by
    obtain ⟨ih1, ih2⟩ := st_bool (w := w) (p := p) (es := .cons e2 es) (xs := x2 :: xs) (.cons k1 k2 k3)
    have key : ∀ dσ, denB (callN P n) w (.cons e (.cons e2 es)) dσ = (den (callN P n) e dσ >>= fun x => boolTurn w x (denB (callN P n) w (.cons e2 es) dσ)) := fun _ => rfl
    cases w with
    | true =>
      refine ⟨pe_imp (pe_and h2.1 ih1) fun σ H Q q => ?_, pw_imp (pw_and h2.2 ih2) fun σ H Q q => ?_⟩
      · obtain ⟨ρ, G, dσ, S, hs, q⟩ := q
        rw [key] at q
        refine tI_of S hs Ext.refl q.bind fun d G1 v H1 ρ1 q1 S1 e1 r1 => ?_
        cases d with
        | bl c =>
          cases repB r1
          refine ⟨c, rfl, ?_⟩
          cases c with
          | true => exact tI_of S1 (hs.ext e1) e1 q1 fun d2 G2 v2 H2 ρ2 q2 S2 e2 r2 => Want.self S2 r2 (Want.up (e1.trans e2) q2)
          | false => exact (Want.up e1 q1.mret).bl S1
        | _ => exact q1.mbad.elim
      · obtain ⟨ρ, G, dσ, S, hs, q⟩ := q
        rw [key] at q
        refine tT_of S hs Ext.refl q.bind (fun d G1 q1 => ?_) fun c G1 H1 ρ1 q1 S1 e1 => ?_
        · cases d with
          | bl i => exact ⟨i, rfl⟩
          | _ => exact q1.mbad.elim
        · cases c with
          | true => exact tT_of S1 (hs.ext e1) e1 q1 (fun d G2 ⟨b, eb, _⟩ => ⟨b, eb⟩) fun b G2 H2 ρ2 ⟨b', eb, k⟩ S2 e2 => by cases eb; exact k H2 ρ2 S2 (e1.trans e2)
          | false =>
            obtain ⟨b', eb, k⟩ := q1.mret
            cases eb
            exact k H1 ρ1 S1 e1
    | false =>
      refine ⟨pe_imp (pe_or h2.1 ih1) fun σ H Q q => ?_, pw_imp (pw_or h2.2 ih2) fun σ H Q q => ?_⟩
      · obtain ⟨ρ, G, dσ, S, hs, q⟩ := q
        rw [key] at q
        refine tI_of S hs Ext.refl q.bind fun d G1 v H1 ρ1 q1 S1 e1 r1 => ?_
        cases d with
        | bl c =>
          cases repB r1
          refine ⟨c, rfl, ?_⟩
          cases c with
          | false => exact tI_of S1 (hs.ext e1) e1 q1 fun d2 G2 v2 H2 ρ2 q2 S2 e2 r2 => Want.self S2 r2 (Want.up (e1.trans e2) q2)
          | true => exact (Want.up e1 q1.mret).bl S1
        | _ => exact q1.mbad.elim
      · obtain ⟨ρ, G, dσ, S, hs, q⟩ := q
        rw [key] at q
        refine tT_of S hs Ext.refl q.bind (fun d G1 q1 => ?_) fun c G1 H1 ρ1 q1 S1 e1 => ?_
        · cases d with
          | bl i => exact ⟨i, rfl⟩
          | _ => exact q1.mbad.elim
        · cases c with
          | false => exact tT_of S1 (hs.ext e1) e1 q1 (fun d G2 ⟨b, eb, _⟩ => ⟨b, eb⟩) fun b G2 H2 ρ2 ⟨b', eb, k⟩ S2 e2 => by cases eb; exact k H2 ρ2 S2 (e1.trans e2)
          | true =>
            obtain ⟨b', eb, k⟩ := q1.mret
            cases eb
            exact k H1 ρ1 S1 e1
theorem ge_bool {w : Bool} {q : BoolOp} {p : Pos} {es : IEs} {xs : List Expr} (hq : q = if w then .And else .Or) (h : AllGE P n X W es xs) : GE P n X W (.bool w es) (.BoolOp q xs p) := by
  subst hq
  obtain ⟨h1, h2⟩ := st_bool (w := w) (p := p) h
  exact ⟨h1, h2.pt⟩
/-! ### what is walked -/
theorem st_sq {a : IE} {tg e : Expr} (ha : PE X e (tE P n X W a)) : PI X tg e (tII X.K X.mg W (denI (callN P n) (.sq a))) := by
  refine ⟨fun pins s σ H R I q => ?_⟩
  obtain ⟨ρ, G, dσ, S, hs, q⟩ := q
  have q : Post (den (callN P n) a dσ >>= seqI) G (fun src G' => ∀ J H' ρ', Sto X.K ρ' G' H' → Ext X.K ρ H ρ' H' → ItOk X.K ρ' H' src J → R J H') (ExW X.K X.mg W σ ρ H) := q
  -- the value once, then by its kind
  refine thn (ha.run pins s σ H (fun x H1 => ∃ a, x = .ref a ∧ (((∃ vs, SqL X.K H1 a vs) ∧ R (Itl X.K a) H1) ∨ ((∃ vs, SqT X.K H1 a vs) ∧ R (Itt X.K a) H1))) I (tI_of S hs Ext.refl q.bind fun d G1 v H1 ρ1 q1 S1 e1 r1 => ?_)) fun v s1 ⟨x, H1, I1, r1, a1, ex, q1⟩ => ?_
  · obtain ⟨a1, src, rfl, hk, q2⟩ := seqI_of S1 r1 q1
    refine ⟨a1, rfl, ?_⟩
    rcases hk with ⟨k1, k2, _⟩ | ⟨k1, k2, _⟩
    · exact .inl ⟨k2, q2 _ H1 ρ1 S1 e1 (itok_l k1)⟩
    · exact .inr ⟨k2, q2 _ H1 ρ1 S1 e1 (itok_t k1)⟩
  · subst ex
    cases r1
    rcases q1 with ⟨⟨vs, hq⟩, q⟩ | ⟨⟨vs, hq⟩, q⟩
    · obtain ⟨its, rv, p, hz⟩ := I1.list hq
      refine wpAny_pyIter_list p.isList ?_
      refine ⟨s1.heap.objs.size, [s1.heap.objs.size], _, _, H1, rfl, I1.kept (t' := s1.toks) fun b o e => Heap.get?_push_of_some _ e, turn_list a1 _, ⟨_, Heap.get?_push_size _ rfl, rfl, rfl⟩, fun b hb => ?_, q⟩
      have e : b = s1.heap.objs.size := by simpa using hb
      subst e
      exact I1.fpOk (Nat.le_refl _) (I1.hok.fresh (Nat.le_refl _))
    · obtain ⟨its, rv, p, hz⟩ := I1.tuple hq
      refine wpAny_pyIter_tuple (show s1.heap.IsTuple a1 its.toArray from p) ?_
      refine ⟨s1.heap.objs.size, [s1.heap.objs.size], _, _, H1, rfl, I1.kept (t' := s1.toks) fun b o e => Heap.get?_push_of_some _ e, turn_tuple a1 _, ⟨_, Heap.get?_push_size _ rfl, rfl, rfl⟩, fun b hb => ?_, q⟩
      have e : b = s1.heap.objs.size := by simpa using hb
      subst e
      exact I1.fpOk (Nat.le_refl _) (I1.hok.fresh (Nat.le_refl _))
theorem pa1 {e : Expr} {t : TE} (h : PE X e t) (hs : notStar e = true) : PA X [e] (tCons t tNil) := pa_cons h pa_nil (star_cons hs)
theorem pa2 {e f : Expr} {t u : TE} (h : PE X e t) (k : PE X f u) (hs : notStar e = true) (ks : notStar f = true) : PA X [e, f] (tCons t (tCons u tNil)) := pa_cons h (pa1 k ks) (star_cons hs)
theorem star1 {e : Expr} {env : Env} (hs : notStar e = true) : starEach [e] env = [(false, eval e env)] := star_cons hs
theorem small_of {i : Int} (h : small i) : -(2 ^ 62) ≤ i ∧ i < 2 ^ 62 := h
theorem st_rng1 (h : SX P T n C X) {a : IE} {tg l : Expr} {x : Str} {px p : Pos} (hx : (x == ("range" : Str)) = true) (hg : glB C.sc x = true) (hl : notStar l = true) (ha : PE X l (tE P n X W a)) :
    PI X tg (.Call (.Name x px) [l] [] p) (tII X.K X.mg W (denI (callN P n) (.rng1 a))) := by
  have ex := beq_iff_eq.mp hx
  subst ex
  obtain ⟨g1, g2, g3⟩ := h.gl hg
  refine pi_imp (pi_range1 g1 (h.gf.blt _ (by decide +kernel)) (pa1 ha hl) (star1 hl)) fun σ H R q => ?_
  obtain ⟨ρ, G, dσ, S, hs, q⟩ := q
  have q : Post (den (callN P n) a dσ >>= fun x => (match x with | .int j => if small j then mret (rngD 0 j.toNat, []) else mbad | _ => mbad)) G (fun src G' => ∀ J H' ρ', Sto X.K ρ' G' H' → Ext X.K ρ H ρ' H' → ItOk X.K ρ' H' src J → R J H') (ExW X.K X.mg W σ ρ H) := q
  refine tI_of S hs Ext.refl q.bind fun d G1 v H1 ρ1 q1 S1 e1 r1 => ?_
  cases d with
  | int j =>
    cases repI r1
    obtain ⟨hj, q1⟩ := if_post (c := small j) q1
    exact ⟨j, rfl, (small_of hj).1, (small_of hj).2, q1.mret _ H1 ρ1 S1 e1 itok_r⟩
  | _ => exact q1.mbad.elim
theorem st_rng2 (h : SX P T n C X) {a b : IE} {tg l r : Expr} {x : Str} {px p : Pos} (hx : (x == ("range" : Str)) = true) (hg : glB C.sc x = true) (hl : notStar l = true) (hr : notStar r = true) (ha : PE X l (tE P n X W a)) (hb : PE X r (tE P n X W b)) :
    PI X tg (.Call (.Name x px) [l, r] [] p) (tII X.K X.mg W (denI (callN P n) (.rng2 a b))) := by
  have ex := beq_iff_eq.mp hx
  subst ex
  obtain ⟨g1, g2, g3⟩ := h.gl hg
  refine pi_imp (pi_range2 g1 (h.gf.blt _ (by decide +kernel)) (pa2 ha hb hl hr) (by rw [star_cons hl, star1 hr]) (star1 hr)) fun σ H R q => ?_
  obtain ⟨ρ, G, dσ, S, hs, q⟩ := q
  have q : Post (den (callN P n) a dσ >>= fun x => den (callN P n) b dσ >>= fun y => (match x, y with | .int i, .int j => if small i ∧ small j then mret (rngD i (j - i).toNat, []) else mbad | _, _ => mbad)) G (fun src G' => ∀ J H' ρ', Sto X.K ρ' G' H' → Ext X.K ρ H ρ' H' → ItOk X.K ρ' H' src J → R J H') (ExW X.K X.mg W σ ρ H) := q
  refine tI_of S hs Ext.refl q.bind fun d G1 v H1 ρ1 q1 S1 e1 r1 => ?_
  refine tI_of S1 (hs.ext e1) e1 q1.bind fun d2 G2 v2 H2 ρ2 q2 S2 e2 r2 => ?_
  cases d with
  | int i =>
    cases d2 with
    | int j =>
      cases repI r1
      cases repI r2
      obtain ⟨hj, q2⟩ := if_post (c := small i ∧ small j) q2
      exact ⟨i, j, rfl, ⟨(small_of hj.1).1, (small_of hj.1).2, (small_of hj.2).1, (small_of hj.2).2⟩, q2.mret _ H2 ρ2 S2 (e1.trans e2) itok_r⟩
    | _ => exact q2.mbad.elim
  | _ => exact q2.mbad.elim
theorem st_enm (h : SX P T n C X) {a : IE} {elts : List Expr} {kk : Nat} {tp : Pos} {l : Expr} {x : Str} {px p : Pos} (hx : (x == ("enumerate" : Str)) = true) (hg : glB C.sc x = true) (hl : notStar l = true) (ha : PE X l (tE P n X W a)) :
    PI X (.Tuple elts kk tp) (.Call (.Name x px) [l] [] p) (tII X.K X.mg W (denI (callN P n) (.enm a))) := by
  have ex := beq_iff_eq.mp hx
  subst ex
  obtain ⟨g1, g2, g3⟩ := h.gl hg
  refine pi_imp (pi_enumA g1 (h.gf.blt _ (by decide +kernel)) (pa1 ha hl) (star1 hl)) fun σ H R q => ?_
  obtain ⟨ρ, G, dσ, S, hs, q⟩ := q
  have q : Post ((den (callN P n) a dσ >>= seqI) >>= fun p => mret (enmD 0 p.1, p.2)) G (fun src G' => ∀ J H' ρ', Sto X.K ρ' G' H' → Ext X.K ρ H ρ' H' → ItOk X.K ρ' H' src J → R J H') (ExW X.K X.mg W σ ρ H) := q
  refine tI_of S hs Ext.refl (Post.bind (Post.bind q)) fun d G1 v H1 ρ1 q1 S1 e1 r1 => ?_
  obtain ⟨a1, src, rfl, hk, q2⟩ := seqI_of S1 r1 q1
  rcases hk with ⟨k1, ⟨vs, k2⟩, _⟩ | ⟨k1, ⟨vs, k2⟩, _⟩
  · exact ⟨a1, vs, rfl, .inl ⟨k2, q2.mret _ H1 ρ1 S1 e1 (itok_el k1)⟩⟩
  · exact ⟨a1, vs, rfl, .inr ⟨k2, q2.mret _ H1 ρ1 S1 e1 (itok_et k1)⟩⟩
theorem st_zip (h : SX P T n C X) {a b : IE} {elts : List Expr} {kk : Nat} {tp : Pos} {l r : Expr} {x : Str} {px p : Pos} (hx : (x == ("zip" : Str)) = true) (hg : glB C.sc x = true) (hl : notStar l = true) (hr : notStar r = true) (ha : PE X l (tE P n X W a)) (hb : PE X r (tE P n X W b)) :
    PI X (.Tuple elts kk tp) (.Call (.Name x px) [l, r] [] p) (tII X.K X.mg W (denI (callN P n) (.zip a b))) := by
  have ex := beq_iff_eq.mp hx
  subst ex
  obtain ⟨g1, g2, g3⟩ := h.gl hg
  refine pi_imp (RZ.pi_zipA g1 (h.gf.blt _ (by decide +kernel)) (pa2 ha hb hl hr) (star_cons hl) (by rw [star1 hr]; rfl)) fun σ H R q => ?_
  obtain ⟨ρ, G, dσ, S, hs, q⟩ := q
  have q : Post (den (callN P n) a dσ >>= fun x => den (callN P n) b dσ >>= fun y => seqI x >>= fun p => seqI y >>= fun q => if isTup x = isTup y then mret (zipD p.1 q.1, p.2 ++ q.2) else mbad) G (fun src G' => ∀ J H' ρ', Sto X.K ρ' G' H' → Ext X.K ρ H ρ' H' → ItOk X.K ρ' H' src J → R J H') (ExW X.K X.mg W σ ρ H) := q
  refine tI_of S hs Ext.refl q.bind fun d G1 v H1 ρ1 q1 S1 e1 r1 => ?_
  refine tI_of S1 (hs.ext e1) e1 q1.bind fun d2 G2 v2 H2 ρ2 q2 S2 e2 r2 => ?_
  obtain ⟨a1, src, rfl, hk, q3⟩ := seqI_of S2 (r1.ext e2) q2.bind
  obtain ⟨a2, src2, rfl, hk2, q4⟩ := seqI_of S2 r2 q3.bind
  obtain ⟨ht, q4⟩ := if_post (c := isTup d = isTup d2) q4
  rcases hk with ⟨k1, ⟨vs, k2⟩, k3⟩ | ⟨k1, ⟨vs, k2⟩, k3⟩
  · rcases hk2 with ⟨m1, ⟨ws, m2⟩, m3⟩ | ⟨m1, ⟨ws, m2⟩, m3⟩
    · exact ⟨a1, a2, vs, ws, rfl, .inl ⟨k2, m2, q4.mret _ H2 ρ2 S2 (e1.trans e2) (itok_zl k1 m1)⟩⟩
    · rw [k3, m3] at ht; cases ht
  · rcases hk2 with ⟨m1, ⟨ws, m2⟩, m3⟩ | ⟨m1, ⟨ws, m2⟩, m3⟩
    · rw [k3, m3] at ht; cases ht
    · exact ⟨a1, a2, vs, ws, rfl, .inr ⟨k2, m2, q4.mret _ H2 ρ2 S2 (e1.trans e2) (itok_zt k1 m1)⟩⟩
/-! ### comprehensions -/
theorem compG_of {gs : Guard} {l : Nat} {turn : D → M (Option D)} {x : D} {xs : List D} {G : GH} {ok : Unit → GH → Prop} {ex : Str → Option D → GH → Prop} (h : Post (compG gs l turn (x :: xs)) G ok ex) :
    chkG gs G = true ∧ Post (turn x) G (fun o G1 => match o with
      | none => Post (compG gs l turn xs) G1 ok ex
      | some d => ∃ acc, G1[l]? = some (.lst acc) ∧ acc.length < sizeLine ∧ Post (compG gs l turn xs) (G1.set l (.lst (acc ++ [d]))) ok ex) noex := by
  unfold Post compG at h
  by_cases hg : chkG gs G = true
  · refine ⟨hg, ?_⟩
    simp only [hg, if_true] at h
    unfold Post
    cases e : turn x G with
    | bad => rw [e] at h; exact h
    | exn c f G1 => rw [e] at h; exact h
    | ok o G1 =>
      rw [e] at h
      cases o with
      | none => exact h
      | some d =>
        simp only at h ⊢
        cases e2 : G1[l]? with
        | none => rw [e2] at h; exact h.elim
        | some o =>
          obtain ⟨acc⟩ := o
          rw [e2] at h
          simp only at h
          by_cases hz : acc.length < sizeLine
          · simp only [hz, if_true] at h
            exact ⟨acc, rfl, hz, h⟩
          · simp only [hz, if_false] at h
  · simp [hg] at h
theorem compG_nil {gs : Guard} {l : Nat} {turn : D → M (Option D)} {G : GH} {ok : Unit → GH → Prop} {ex : Str → Option D → GH → Prop} (h : Post (compG gs l turn []) G ok ex) : chkG gs G = true ∧ ok () G := by
  unfold Post compG at h
  by_cases hg : chkG gs G = true
  · simp only [hg, if_true] at h
    exact ⟨hg, h⟩
  · simp [hg] at h
theorem wipe_none {σ : L2.St} {i : Nat} : ∀ {vs : List Nat}, i ∈ vs → (L2.wipe σ vs).set i none = L2.wipe σ vs
  | [], h => by simp at h
  | v :: vs, h => by
    unfold L2.wipe
    by_cases e : v = i
    · subst e; rw [List.set_set]
    · rw [List.set_comm _ _ e, wipe_none (by rcases List.mem_cons.mp h with z | z; exact absurd z.symm e; exact z)]
theorem wipe_sub {σ : L2.St} {ws : List Nat} : ∀ {vs : List Nat}, (∀ i ∈ vs, i ∈ ws) → L2.wipe (L2.wipe σ ws) vs = L2.wipe σ ws
  | [], _ => rfl
  | v :: vs, h => by
    show (L2.wipe (L2.wipe σ ws) vs).set v none = _
    rw [wipe_sub fun i hi => h i (List.mem_cons_of_mem _ hi)]
    exact wipe_none (h v List.mem_cons_self)
theorem wipe_wipe {σ : L2.St} {vs : List Nat} : L2.wipe (L2.wipe σ vs) vs = L2.wipe σ vs := wipe_sub fun _ h => h
abbrev Wf : WX := fun _ _ _ _ => False
/-- the tests of a clause -/
def tCond (K : PySem.W.Frag) (mg : Str → Option Value) (c : Calls) : IO → TT
  | .none => tYes
  | .some e => tT K mg Wf (den c e)
/-- one turn, as the meaning tells it -/
noncomputable def turnC (c : Calls) (elt : IE) (t : IT) (cond : IO) (σ : Env') (x : D) : M (Option D) := (match assignT t x σ with
  | none => mbad
  | some σ2 => (match cond with
    | .none => den c elt σ2 >>= fun y => mret (some y)
    | .some e => den c e σ2 >>= fun b => (match b with
      | .bl true => den c elt σ2 >>= fun y => mret (some y)
      | .bl false => mret none
      | _ => mbad)))
theorem den_comp (c : Calls) (own : List (Str × Nat)) (elt : IE) (t : IT) (it : II) (cond : IO) (dσ : Env') : den c (.comp own elt t it cond) dσ = (denI c it dσ >>= fun src => newL [] >>= fun d => (match d with
    | .loc l => compG src.2 l (turnC c elt t cond (wipeD dσ (own.map (·.2)))) src.1 >>= fun _ => mret (OC.D.loc l)
    | _ => mbad)) := by
  cases cond with
  | none =>
    unfold den turnC
    rfl
  | some e =>
    unfold den turnC
    rfl
theorem st_comp (h : SX P T n C X) (hcalm : X.calm = true) {own : List (Str × Nat)} {elt : IE} {t : IT} {it : II} {cond : IO} {el tg iter : Expr} {ifs : List Expr} {scope : Scope} {pos : Pos} (hb : blkC C.N C.sc scope own = true) (hsl : ∀ i ∈ itSlots t, i ∈ own.map (·.2))
    (hi : PI X tg iter (tII X.K X.mg W (denI (callN P n) it))) (hset : ∀ x, foldedSetIterable iter X.env x = pure x) (ht : ckT (C.blk scope) t tg = true)
    (he : ∀ (s : Shared) (H : Hp) (c : Addr) (cl : List (Str × Addr)) (fp : List Addr), PE (X.blk s H scope (compEnvC scope cl c X.env) fp) el (tI X.K X.mg Wf (den (callN P n) elt)))
    (hc : ∀ (s : Shared) (H : Hp) (c : Addr) (cl : List (Str × Addr)) (fp : List Addr), PTs (X.blk s H scope (compEnvC scope cl c X.env) fp) ifs (tCond X.K X.mg (callN P n) cond)) :
    PE X (.ListComp el [⟨tg, iter, ifs, 0⟩] scope pos) (tLc (tII X.K X.mg W (denI (callN P n) it)) (gI X.K t) (tCond X.K X.mg (callN P n) cond) (tI X.K X.mg Wf (den (callN P n) elt)) (own.map (·.2))) := by
  refine pe_lc hcalm h.nd' hi (blkOk_by (by rw [h.N, h.scope]; exact hb)) (fun s H c cl fp => ?_) (fun s H c cl fp => hc s H c cl fp) (fun s H c cl fp => he s H c cl fp) hset
  exact pg_I (X := X.blk s H scope (compEnvC scope cl c X.env) fp) (P := P) (T := T) (n := n) h.blk ht
theorem comp_read {own : List (Str × Nat)} {elt : IE} {t : IT} {it : II} {cond : IO} (hsl : ∀ i ∈ itSlots t, i ∈ own.map (·.2)) {σ : L2.St} {H : Hp} {Q : VK} (q : tE P n X W (.comp own elt t it cond) σ H Q) :
    tLc (tII X.K X.mg W (denI (callN P n) it)) (gI X.K t) (tCond X.K X.mg (callN P n) cond) (tI X.K X.mg Wf (den (callN P n) elt)) (own.map (·.2)) σ H Q := by
  obtain ⟨ρ, G, dσ, S, hs, q⟩ := q
  rw [den_comp] at q
  have q : Post (denI (callN P n) it dσ >>= fun src => newL [] >>= fun d => (match d with
    | .loc l => compG src.2 l (turnC (callN P n) elt t cond (wipeD dσ (own.map (·.2)))) src.1 >>= fun _ => mret (OC.D.loc l)
    | _ => mbad)) G (Want X.K ρ H Q) (ExW X.K X.mg W σ ρ H) := q
  refine ⟨ρ, G, dσ, S, hs, q.bind.mono (fun src G1 q1 J H1 ρ1 S1 e1 it1 D hD => ?_) fun _ _ _ x => x⟩
  -- the new list
  have q2 : Post (compG src.2 G1.length (turnC (callN P n) elt t cond (wipeD dσ (own.map (·.2)))) src.1 >>= fun _ => mret (OC.D.loc G1.length)) (G1 ++ [.lst []]) (Want X.K ρ H Q) (ExW X.K X.mg W σ ρ H) := q1.bind
  have S2 := S1.new (p := D) (vs := []) (xs := []) hD rfl
  have x12 : Ext X.K ρ1 H1 (ρ1 ++ [D]) (upd H1 D (.lst [])) := ext_grow (ext_upd (.inl hD))
  have locD : (ρ1 ++ [D])[G1.length]? = some D := by rw [← S1.len, List.getElem?_append_right (Nat.le_refl _)]; simp
  refine ⟨fun i m H' => m = src.1.length - i ∧ i ≤ src.1.length ∧ ∃ ρ' G', Sto X.K ρ' G' H' ∧ Ext X.K (ρ1 ++ [D]) (upd H1 D (.lst [])) ρ' H' ∧
    Post (compG src.2 G1.length (turnC (callN P n) elt t cond (wipeD dσ (own.map (·.2)))) (src.1.drop i)) G' (fun _ G2 => Want X.K ρ H Q (OC.D.loc G1.length) G2) (ExW X.K X.mg W σ ρ H),
    ⟨src.1.length, by simp, Nat.zero_le _, ρ1 ++ [D], _, S2, Ext.refl, q2.bind⟩, ?_⟩
  rintro i m H' ⟨rfl, hle, ρ', G', S', x', q'⟩
  have x1' : Ext X.K ρ1 H1 ρ' H' := x12.trans x'
  by_cases hlt : i < src.1.length
  · rw [List.drop_eq_getElem_cons hlt] at q'
    obtain ⟨hg, q'⟩ := compG_of q'
    have st := it1 i ρ' G' H' S' x1' hg
    obtain ⟨go, yl⟩ := st.1 src.1[i] (by simp [hlt])
    refine .inr ⟨go, fun H'' => ∃ ρ'' G'', Sto X.K ρ'' G'' H'' ∧ Ext X.K (ρ1 ++ [D]) (upd H1 D (.lst [])) ρ'' H'' ∧
      Post (compG src.2 G1.length (turnC (callN P n) elt t cond (wipeD dσ (own.map (·.2)))) (src.1.drop (i + 1))) G'' (fun _ G2 => Want X.K ρ H Q (OC.D.loc G1.length) G2) (ExW X.K X.mg W σ ρ H),
      fun H'' hN => ⟨src.1.length - (i + 1), by omega, rfl, hlt, hN⟩, fun x H3 y => ?_⟩
    obtain ⟨S3, x3, r3⟩ := yl x H3 y
    have x13 : Ext X.K ρ H ρ' H3 := (e1.trans x1').trans x3
    unfold turnC at q'
    cases ea : assignT t src.1[i] (wipeD dσ (own.map (·.2))) with
    | none => rw [ea] at q'; exact q'.mbad.elim
    | some dσ2 =>
      rw [ea] at q'
      refine ⟨ρ', src.1[i], _, dσ2, r3, (hs.ext x13).wipe (own.map (·.2)), ea, fun σ2 hs2 hw => ⟨by rw [hw _ hsl, wipe_wipe], ?_⟩⟩
      -- behind the element
      have fin : ∀ {ρ4 : List Addr} {G4 : GH} {H4 : Hp}, Sto X.K ρ4 G4 H4 → Ext X.K ρ' H3 ρ4 H4 → RepS X.K ρ4 H4 dσ2 σ2 → Post (den (callN P n) elt dσ2 >>= fun y => mret (some y)) G4 (fun o G1' => match o with
          | none => Post (compG src.2 G1.length (turnC (callN P n) elt t cond (wipeD dσ (own.map (·.2)))) (src.1.drop (i + 1))) G1' (fun _ G2 => Want X.K ρ H Q (OC.D.loc G1.length) G2) (ExW X.K X.mg W σ ρ H)
          | some d => ∃ acc, G1'[G1.length]? = some (.lst acc) ∧ acc.length < sizeLine ∧ Post (compG src.2 G1.length (turnC (callN P n) elt t cond (wipeD dσ (own.map (·.2)))) (src.1.drop (i + 1))) (G1'.set G1.length (.lst (acc ++ [d]))) (fun _ G2 => Want X.K ρ H Q (OC.D.loc G1.length) G2) (ExW X.K X.mg W σ ρ H)) noex →
          tI X.K X.mg Wf (den (callN P n) elt) σ2 H4 fun y H5 => ∃ acc, H5 D = some (.lst acc) ∧ acc.length < sizeLine ∧ ∃ ρ'' G'', Sto X.K ρ'' G'' (upd H5 D (.lst (acc ++ [y]))) ∧ Ext X.K (ρ1 ++ [D]) (upd H1 D (.lst [])) ρ'' (upd H5 D (.lst (acc ++ [y]))) ∧
            Post (compG src.2 G1.length (turnC (callN P n) elt t cond (wipeD dσ (own.map (·.2)))) (src.1.drop (i + 1))) G'' (fun _ G2 => Want X.K ρ H Q (OC.D.loc G1.length) G2) (ExW X.K X.mg W σ ρ H) := fun {ρ4 G4 H4} S4 x4 hs4 q4 => by
        refine tI_of (ρ0 := ρ4) (H0 := H4) S4 hs4 Ext.refl (q4.bind.mono (fun _ _ z => z) fun _ _ _ z => z.elim) fun d G5 v H5 ρ5 q5 S5 x5 r5 => ?_
        obtain ⟨acc, ga, hz, q5⟩ := q5.mret
        obtain ⟨a', vs, h1, h2, h3⟩ := S5.lst ga
        have lD : ρ5[G1.length]? = some D := (((x'.trans x3).trans x4).trans x5).at locD
        rw [lD] at h1; cases h1
        have xe : Ext X.K ρ5 H5 ρ5 (upd H5 D (.lst (vs ++ [v]))) := ext_upd (.inr ⟨vs, h2⟩)
        exact ⟨vs, h2, by rw [h3.length]; exact hz, ρ5, _, S5.write lD h2 (h3.append (RepVs.one r5)), (((x'.trans x3).trans x4).trans x5).trans xe, q5⟩
      cases cond with
      | none => exact fin S3 Ext.refl hs2 q'
      | some e =>
        have q' : Post (den (callN P n) e dσ2 >>= fun b => (match b with
          | .bl true => den (callN P n) elt dσ2 >>= fun y => mret (some y)
          | .bl false => mret none
          | _ => mbad)) G' _ noex := q'
        refine tT_of (ρ0 := ρ') (H0 := H3) S3 hs2 Ext.refl (q'.bind.mono (fun _ _ z => z) fun _ _ _ z => z.elim) (fun d G4 q4 => ?_) fun b G4 H4 ρ4 q4 S4 x4 => ?_
        · cases d with
          | bl b => exact ⟨b, rfl⟩
          | _ => exact q4.mbad.elim
        · cases b with
          | true => exact fin S4 x4 (hs2.ext x4) q4
          | false => exact ⟨ρ4, G4, S4, (x'.trans x3).trans x4, q4.mret⟩
  · have hi : i = src.1.length := by omega
    rw [List.drop_eq_nil_of_le (by omega)] at q'
    obtain ⟨hg, q'⟩ := compG_nil q'
    refine .inl ⟨(it1 i ρ' G' H' S' x1' hg).2 (by omega), ?_⟩
    exact q' _ H' ρ' S' (e1.trans x1') ⟨D, rfl, x'.at locD⟩
end
end OC

namespace OC
open PySem PySem.Spec PyProof.Rows L2
variable {P : Prg} {T : Tab} {n : Nat}
def OkE (P : Prg) (T : Tab) (n : Nat) (ie : IE) : Prop := ∀ (C : SC) (X : Cx) (W : WX) (e : Expr), SX P T n C X → Takes X W → ckE T C ie e = true → GE P n X W ie e
def OkEs (P : Prg) (T : Tab) (n : Nat) (es : IEs) : Prop := ∀ (C : SC) (X : Cx) (W : WX) (xs : List Expr), SX P T n C X → Takes X W → ckEs T C es xs = true → AllGE P n X W es xs
def OkO (P : Prg) (T : Tab) (n : Nat) (o : IO) : Prop := ∀ (C : SC) (X : Cx) (W : WX) (u : Option Expr), SX P T n C X → Takes X W → ckO T C o u = true → PO X u (tO X.K X.mg W (denO (callN P n) o)) ∧ (∀ e c, o = .some e → u = some c → GE P n X W e c)
def OkI (P : Prg) (T : Tab) (n : Nat) (it : II) : Prop := ∀ (C : SC) (X : Cx) (W : WX) (tg e : Expr), SX P T n C X → Takes X W → ckI T C it tg e = true → PI X tg e (tII X.K X.mg W (denI (callN P n) it)) ∧ ∀ x, foldedSetIterable e X.env x = pure x
theorem and2 {a b : Bool} (h : (a && b) = true) : a = true ∧ b = true := by simpa using h
theorem ok_k (d : D) : OkE P T n (.k d) := by
  intro C X W e h tk hc
  simp only [ckE] at hc
  cases e with
  | Constant c k p =>
    cases c with
    | none =>
      cases d with
      | non => exact both (pe_imp pe_non fun σ H Q q => tI_const (m := den (callN P n) (.k .non)) (fun _ => rfl) (fun ρ => rfl) q) fun _ => rfl
      | _ => simp at hc
    | int j =>
      cases d with
      | int i =>
        have e := of_decide_eq_true hc
        subst e
        exact both (pe_imp pe_int fun σ H Q q => tI_const (m := den (callN P n) (.k (.int i))) (fun _ => rfl) (fun ρ => rfl) q) fun _ => rfl
      | _ => simp at hc
    | bool j =>
      cases d with
      | bl i =>
        have e := of_decide_eq_true hc
        subst e
        exact both (pe_imp pe_bl fun σ H Q q => tI_const (m := den (callN P n) (.k (.bl i))) (fun _ => rfl) (fun ρ => rfl) q) fun _ => rfl
      | _ => simp at hc
    | str j =>
      cases d with
      | str i =>
        have e := of_decide_eq_true hc
        subst e
        exact both (pe_imp pe_str fun σ H Q q => tI_const (m := den (callN P n) (.k (.str i))) (fun _ => rfl) (fun ρ => rfl) q) fun _ => rfl
      | _ => simp at hc
    | _ => cases d <;> simp at hc
  | _ => cases d <;> simp at hc
theorem ok_v (i : Nat) : OkE P T n (.v i) := by
  intro C X W e h tk hc
  simp only [ckE] at hc
  cases e with
  | Name x p => exact both (st_var h (and2 hc).1 (and2 hc).2) fun _ => rfl
  | _ => simp at hc
theorem ok_gl (y : Str) (d : D) : OkE P T n (.gl y d) := by
  intro C X W e h tk hc
  simp only [ckE] at hc
  cases e with
  | Name x p => exact both (st_gl h (and2 (and2 hc).1).1 (and2 (and2 hc).1).2 (and2 hc).2) fun _ => rfl
  | _ => simp at hc
theorem ok_tup {es : IEs} (ih : OkEs P T n es) : OkE P T n (.tup es) := by
  intro C X W e h tk hc
  simp only [ckE] at hc
  cases e with
  | Tuple xs k p => exact both (st_tup (ih C X W xs h tk hc).pa) fun _ => rfl
  | _ => simp at hc
theorem ok_lst {es : IEs} (ih : OkEs P T n es) : OkE P T n (.lst es) := by
  intro C X W e h tk hc
  simp only [ckE] at hc
  cases e with
  | List xs p => exact both (st_lst (ih C X W xs h tk hc).pa) fun _ => rfl
  | _ => simp at hc
theorem ok_op {o : Op2} {a b : IE} (ia : OkE P T n a) (ib : OkE P T n b) : OkE P T n (.op o a b) := by
  intro C X W e h tk hc
  simp only [ckE] at hc
  cases e with
  | BinOp l q r p => exact both (st_op (and2 (and2 hc).1).1 (ia C X W l h tk (and2 (and2 hc).1).2).1 (ib C X W r h tk (and2 hc).2).1) fun _ => rfl
  | _ => simp at hc
theorem ok_neg {a : IE} (ia : OkE P T n a) : OkE P T n (.neg a) := by
  intro C X W e h tk hc
  simp only [ckE] at hc
  cases e with
  | UnaryOp q l p =>
    cases q with
    | USub => exact both (st_neg (ia C X W l h tk hc).1) fun _ => rfl
    | _ => simp at hc
  | _ => simp at hc
theorem ok_not {a : IE} (ia : OkE P T n a) : OkE P T n (.not a) := by
  intro C X W e h tk hc
  simp only [ckE] at hc
  cases e with
  | UnaryOp q l p =>
    cases q with
    | Not => exact ⟨st_not (ia C X W l h tk hc).1, tt_not (ia C X W l h tk hc).2⟩
    | _ => simp at hc
  | _ => simp at hc
theorem ok_bool {w : Bool} {es : IEs} (ih : OkEs P T n es) : OkE P T n (.bool w es) := by
  intro C X W e h tk hc
  simp only [ckE] at hc
  cases e with
  | BoolOp q xs p => exact ge_bool (of_decide_eq_true (and2 hc).1) (ih C X W xs h tk (and2 hc).2)
  | _ => simp at hc
theorem ok_cmp {o : Cmp} {a b : IE} (ia : OkE P T n a) (ib : OkE P T n b) : OkE P T n (.cmp o a b) := by
  intro C X W e h tk hc
  simp only [ckE] at hc
  cases e with
  | Compare l ops rs p =>
    match ops, rs, hc with
    | [q], [r], hc =>
      have hc : (((cmpB o q && !behindInMarks q r) && ckE T C a l) && ckE T C b r) = true := hc
      have h1 := (and2 (and2 (and2 hc).1).1)
      exact st_cmp h h1.1 (by simpa using h1.2) (ia C X W l h tk (and2 (and2 hc).1).2).1 (ib C X W r h tk (and2 hc).2).1
    | [], _, hc => simp at hc
    | _ :: _ :: _, _, hc => simp at hc
    | [_], [], hc => simp at hc
    | [_], _ :: _ :: _, hc => simp at hc
  | _ => simp at hc
theorem ok_ife {t a b : IE} (it : OkE P T n t) (ia : OkE P T n a) (ib : OkE P T n b) : OkE P T n (.ife t a b) := by
  intro C X W e h tk hc
  simp only [ckE] at hc
  cases e with
  | IfExp u l r p => exact st_ife (it C X W u h tk (and2 (and2 hc).1).1).2 (ia C X W l h tk (and2 (and2 hc).1).2) (ib C X W r h tk (and2 hc).2)
  | _ => simp at hc
theorem ok_idx {a b : IE} (ia : OkE P T n a) (ib : OkE P T n b) : OkE P T n (.idx a b) := by
  intro C X W e h tk hc
  simp only [ckE] at hc
  cases e with
  | Subscript l r p => exact both (st_idx (and2 (and2 hc).1).1 (ia C X W l h tk (and2 (and2 hc).1).2).1 (ib C X W r h tk (and2 hc).2).1) fun _ => rfl
  | _ => simp at hc
theorem ok_kidx {y : Str} {tbl : List (D × D)} {b : IE} (ib : OkE P T n b) : OkE P T n (.kidx y tbl b) := by
  intro C X W e h tk hc
  simp only [ckE] at hc
  cases e with
  | Subscript l r p =>
    cases l with
    | Name x px =>
      have hc : ((((y == x && glB C.sc x) && notSlice r) && T.kds.contains (x, tbl)) && ckE T C b r) = true := hc
      have h1 := and2 hc
      have h2 := and2 h1.1
      have h3 := and2 h2.1
      have h4 := and2 h3.1
      exact both (st_kidx h h4.1 h4.2 h3.2 h2.2 (ib C X W r h tk h1.2).1) fun _ => rfl
    | _ => simp at hc
  | _ => simp at hc
theorem ok_slice {a : IE} {lo hi : IO} (ia : OkE P T n a) (il : OkO P T n lo) (ih : OkO P T n hi) : OkE P T n (.slice a lo hi) := by
  intro C X W e h tk hc
  simp only [ckE] at hc
  cases e with
  | Subscript l r p =>
    cases r with
    | Slice u v w p2 =>
      cases w with
      | none =>
        have hc : ((ckE T C a l && ckO T C lo u) && ckO T C hi v) = true := hc
        exact both (st_slice (ia C X W l h tk (and2 (and2 hc).1).1).1 (il C X W u h tk (and2 (and2 hc).1).2).1 (ih C X W v h tk (and2 hc).2).1) fun _ => rfl
      | some w => simp at hc
    | _ => simp at hc
  | _ => simp at hc
theorem ok_rev {a : IE} (ia : OkE P T n a) : OkE P T n (.rev a) := by
  intro C X W e h tk hc
  simp only [ckE] at hc
  split at hc
  · exact both (st_rev (ia C X W _ h tk hc).1) fun _ => rfl
  · simp at hc
theorem rngD_eq : ∀ (n : Nat) (a : Int), rngD a n = (List.range n).map fun (i : Nat) => D.int (a + (i : Int))
  | 0, a => rfl
  | n + 1, a => by
    rw [List.range_succ_eq_map, List.map_cons, List.map_map]
    show D.int a :: rngD (a + 1) n = _
    rw [rngD_eq n (a + 1)]
    congr 1
    · simp
    · apply List.map_congr_left
      intro i _
      show D.int (a + 1 + (i : Int)) = D.int (a + ((i + 1 : Nat) : Int))
      congr 1; omega
theorem repVs_map {K : PySem.W.Frag} {ρ : List Addr} {H : Hp} {a : Int} : ∀ (l : List Nat), RepVs K ρ H (l.map fun (i : Nat) => D.int (a + (i : Int))) (l.map fun (i : Nat) => V.int (a + (i : Int)))
  | [] => rfl
  | i :: l => ⟨_, _, rfl, rfl, repVs_map l⟩
theorem ok_tupR {a : IE} (ia : OkE P T n a) : OkE P T n (.tupR a) := by
  intro C X W e h tk hc
  simp only [ckE] at hc
  split at hc
  · rename_i x px y py l p2 p
    have h1 := and2 hc
    have h2 := and2 h1.1
    have h3 := and2 h2.1
    have h4 := and2 h3.1
    have h5 := and2 h4.1
    have h6 := and2 h5.1
    have ex := beq_iff_eq.mp h6.2
    have ey := beq_iff_eq.mp h4.2
    subst ex; subst ey
    obtain ⟨g1, g2, g3⟩ := h.gl h5.2
    obtain ⟨k1, k2, k3⟩ := h.gl h3.2
    refine both (pe_imp (pe_tupRg (h.calm h6.1).1 g1 (h.gf.blt _ (by decide +kernel)) (prg_1 k1 (h.gf.blt _ (by decide +kernel)) (ia C X W l h tk h1.2).1 (star1 h2.2))) fun σ H Q q => ?_) fun _ => rfl
    obtain ⟨ρ, G, dσ, S, hs, q⟩ := q
    have q : Post (den (callN P n) a dσ >>= fun x => (match x with | .int j => if j ≤ 16777216 ∧ 0 ≤ j then mret (D.tup (rngD 0 j.toNat)) else mbad | _ => mbad)) G (Want X.K ρ H Q) (ExW X.K X.mg W σ ρ H) := q
    refine tI_of S hs Ext.refl q.bind fun d G1 v H1 ρ1 q1 S1 e1 r1 => ?_
    cases d with
    | int j =>
      cases repI r1
      obtain ⟨hj, q1⟩ := if_post (c := j ≤ 16777216 ∧ 0 ≤ j) q1
      refine ⟨j, rfl, RgOk.of_le (by omega) hj.1 (by omega) hj.2, ?_⟩
      have q2 : Want X.K ρ H Q (.tup (rngD 0 j.toNat)) G1 := q1
      refine (Want.up e1 q2).tup S1 ?_
      rw [rngD_eq]
      have e0 : (j - 0).toNat = j.toNat := by simp
      unfold rgV
      rw [e0]
      exact repVs_map _
    | _ => exact q1.mbad.elim
  · simp at hc
theorem ok_call {f : Nat} {es : IEs} {kws : List Nat} {ks : IEs} (ia : OkEs P T n es) (ik : OkEs P T n ks) : OkE P T n (.call f es kws ks) := by
  intro C X W e h tk hc
  simp only [ckE] at hc
  cases e with
  | Call g args kwl p =>
    cases g with
    | Name x px =>
      simp only at hc
      have h1 := and2 hc
      have h2 := and2 h1.1
      cases ef : T.fns[f]? with
      | none => rw [ef] at h1; simp at h1
      | some p0 =>
        obtain ⟨y, ps⟩ := p0
        obtain ⟨fn, hf, hn, hp⟩ := h.gf.tab f _ ef
        have h3 := h1.2
        rw [ef] at h3
        have h4 := and2 h3
        have hx : fn.name = x := by rw [hn]; exact beq_iff_eq.mp h4.1
        cases kws with
        | nil =>
          have h5 := h4.2
          cases kwl with
          | cons k kwl => simp at h5
          | nil =>
            have h5 : ((true && ckEs T C es args) && decide (0 < args.length)) = true := h5
            have h6 := and2 h5
            have hl : 0 < args.length := of_decide_eq_true h6.2
            cases args with
            | nil => simp at hl
            | cons e0 xs =>
              have A := ia C X W _ h tk (and2 h6.1).2
              exact both (st_call h h2.1 tk hf hx h2.2 A.star A.pa) fun _ => rfl
        | cons i0 is =>
          have h5 : (((T.kws.contains (f, args.length, i0 :: is) && ckKw ps (i0 :: is) kwl) && ckEs T C es args) && ckEs T C ks (kwl.map (·.value))) = true := h4.2
          have h6 := and2 h5
          have h7 := and2 h6.1
          have h8 := and2 h7.1
          have A := ia C X W _ h tk h7.2
          have B := ik C X W _ h tk h6.2
          have hl := ckEs_len h7.2
          have hl2 := ckEs_len h6.2
          refine both (st_callK h h2.1 tk hf hx h2.2 (by rw [← hl]; simpa using h8.1) (by rw [show fn.params = ps from hp]; exact h8.2) (by simpa using hl2) (fun e0 => ?_) A.star A.pa B.pk) fun _ => rfl
          subst e0
          cases es with
          | nil => rfl
          | cons a b => simp [lenEs] at hl
    | _ => simp at hc
  | _ => simp at hc
theorem ok_bi {b : Bi} {es : IEs} (ia : OkEs P T n es) : OkE P T n (.bi b es) := by
  intro C X W e h tk hc
  simp only [ckE] at hc
  cases e with
  | Call g args kwl p =>
    cases g with
    | Name x px =>
      cases kwl with
      | cons k kwl => simp at hc
      | nil =>
        simp only at hc
        have h1 := and2 hc
        have h2 := and2 h1.1
        have h3 := and2 h2.1
        have h4 := and2 h3.1
        have h5 := and2 h4.1
        have hl : 0 < args.length := of_decide_eq_true h2.2
        cases args with
        | nil => simp at hl
        | cons e0 xs =>
          have A := ia C X W _ h tk h1.2
          exact both (st_bi h h5.1 h5.2 h4.2 h3.2 A.star A.pa) fun _ => rfl
    | _ => simp at hc
  | _ => simp at hc
theorem ok_isin {a : IE} {ts : List Ty} (ia : OkE P T n a) : OkE P T n (.isin a ts) := by
  intro C X W e h tk hc
  simp only [ckE] at hc
  split at hc
  · rename_i x px l r p
    have h1 := and2 hc
    have h2 := and2 h1.1
    have h3 := and2 h2.1
    have ex := beq_iff_eq.mp h3.1
    subst ex
    have A := (ia C X W _ h tk h2.2).1
    by_cases hl : notStar l = true
    · exact both (pe_isin h h3.2 A hl h1.2) fun _ => rfl
    · cases l with
      | Starred l p => cases a <;> (simp [ckE] at h2; try cases h2.2)
      | _ => exact absurd rfl hl
  · simp at hc
theorem ok_meth {m : Mt} {o : IE} {es : IEs} (io : OkE P T n o) (ia : OkEs P T n es) : OkE P T n (.meth m o es) := by
  intro C X W e h tk hc
  simp only [ckE] at hc
  split at hc
  · rename_i l x apos args cpos
    have h1 := and2 hc
    have h2 := and2 h1.1
    have h3 := and2 h2.1
    have h4 := and2 h3.1
    have h5 := and2 h4.1
    have hl := of_decide_eq_true h3.2
    cases args with
    | nil => simp at hl
    | cons e0 xs =>
      have A := ia C X W _ h tk h1.2
      exact both (st_meth h5.1 h5.2 (of_decide_eq_true h4.2) hl.2 A.star (io C X W _ h tk h2.2).1 A.pa) fun _ => rfl
  · simp at hc
theorem ok_comp {own : List (Str × Nat)} {elt : IE} {t : IT} {it : II} {cond : IO} (ie : OkE P T n elt) (ii : OkI P T n it) (ic : OkO P T n cond) : OkE P T n (.comp own elt t it cond) := by
  intro C X W e h tk hc
  simp only [ckE] at hc
  split at hc
  · rename_i el tg iter ifs scope pos
    have h1 := and2 hc
    have h2 := and2 h1.1
    have h3 := and2 h2.1
    have h4 := and2 h3.1
    have h5 := and2 h4.1
    have h6 := and2 h5.1
    have hsl := of_decide_eq_true h5.2
    obtain ⟨I1, I2⟩ := ii C X W tg iter h tk h4.2
    refine both (pe_imp (st_comp (cond := cond) h (h.calm h6.1).1 h6.2 hsl I1 I2 h3.2 (fun s H c cl fp => (ie _ _ Wf el (h.blk) takes_none5 h2.2).1) fun s H c cl fp => ?_) fun σ H Q q => comp_read hsl q) fun _ => rfl
    cases ifs with
    | nil =>
      cases cond with
      | none => exact pts_nil
      | some e => simp at h1
    | cons c0 ifs =>
      cases ifs with
      | nil =>
        cases cond with
        | none => simp at h1
        | some e =>
          have h7 : ckO T (C.blk scope) (.some e) (some c0) = true := by simpa using h1.2
          exact pts_one ((ic _ _ Wf (some c0) h.blk takes_none5 h7).2 e c0 rfl rfl).2
      | cons c1 ifs => simp at h1
  · simp at hc
theorem ok_nil : OkEs P T n .nil := by
  intro C X W xs h tk hc
  simp only [ckEs] at hc
  cases xs with
  | nil => exact .nil
  | cons x xs => simp at hc
theorem ok_cons {e : IE} {es : IEs} (ie : OkE P T n e) (is : OkEs P T n es) : OkEs P T n (.cons e es) := by
  intro C X W xs h tk hc
  simp only [ckEs] at hc
  cases xs with
  | nil => simp at hc
  | cons x xs =>
    simp only at hc
    exact .cons (and2 (and2 hc).1).1 (ie C X W x h tk (and2 (and2 hc).1).2) (is C X W xs h tk (and2 hc).2)
theorem ok_onone : OkO P T n .none := by
  intro C X W u h tk hc
  simp only [ckO] at hc
  cases u with
  | none => exact ⟨po_imp po_none fun σ H Q q => by
      obtain ⟨ρ, G, dσ, S, hs, q⟩ := q
      exact q.mret H ρ S Ext.refl, fun e c q => by cases q⟩
  | some x => simp at hc
theorem ok_osome {e : IE} (ie : OkE P T n e) : OkO P T n (.some e) := by
  intro C X W u h tk hc
  simp only [ckO] at hc
  cases u with
  | none => simp at hc
  | some x =>
    have A := ie C X W x h tk hc
    refine ⟨po_imp (po_some A.1) fun σ H Q q => ?_, fun e' c q1 q2 => by cases q1; cases q2; exact A⟩
    obtain ⟨ρ, G, dσ, S, hs, q⟩ := q
    have q : Post (den (callN P n) e dσ >>= fun x => (match x with | .int i => mret (some i) | _ => mbad)) G (fun o G' => ∀ H' ρ', Sto X.K ρ' G' H' → Ext X.K ρ H ρ' H' → Q o H') (ExW X.K X.mg W σ ρ H) := q
    refine tI_of S hs Ext.refl q.bind fun d G1 v H1 ρ1 q1 S1 e1 r1 => ?_
    cases d with
    | int i => exact ⟨i, repI r1, q1.mret H1 ρ1 S1 e1⟩
    | _ => exact q1.mbad.elim
theorem ok_sq {a : IE} (ia : OkE P T n a) : OkI P T n (.sq a) := by
  intro C X W tg e h tk hc
  simp only [ckI] at hc
  have h1 := and2 hc
  refine ⟨st_sq (ia C X W e h tk h1.2).1, fun x => ?_⟩
  cases e with
  | Set elts k p => simp at h1
  | _ => rfl
theorem ok_rng1 {a : IE} (ia : OkE P T n a) : OkI P T n (.rng1 a) := by
  intro C X W tg e h tk hc
  simp only [ckI] at hc
  split at hc
  · have h1 := and2 hc
    have h2 := and2 h1.1
    have h3 := and2 h2.1
    exact ⟨st_rng1 h h3.1 h3.2 h2.2 (ia C X W _ h tk h1.2).1, fun x => rfl⟩
  · simp at hc
theorem ok_rng2 {a b : IE} (ia : OkE P T n a) (ib : OkE P T n b) : OkI P T n (.rng2 a b) := by
  intro C X W tg e h tk hc
  simp only [ckI] at hc
  split at hc
  · have h1 := and2 hc
    have h2 := and2 h1.1
    have h3 := and2 h2.1
    have h4 := and2 h3.1
    have h5 := and2 h4.1
    exact ⟨st_rng2 h h5.1 h5.2 h4.2 h3.2 (ia C X W _ h tk h2.2).1 (ib C X W _ h tk h1.2).1, fun x => rfl⟩
  · simp at hc
theorem ok_enm {a : IE} (ia : OkE P T n a) : OkI P T n (.enm a) := by
  intro C X W tg e h tk hc
  simp only [ckI] at hc
  split at hc
  · have h1 := and2 hc
    have h2 := and2 h1.1
    have h3 := and2 h2.1
    exact ⟨st_enm h h3.1 h3.2 h2.2 (ia C X W _ h tk h1.2).1, fun x => rfl⟩
  · simp at hc
theorem ok_zip {a b : IE} (ia : OkE P T n a) (ib : OkE P T n b) : OkI P T n (.zip a b) := by
  intro C X W tg e h tk hc
  simp only [ckI] at hc
  split at hc
  · have h1 := and2 hc
    have h2 := and2 h1.1
    have h3 := and2 h2.1
    have h4 := and2 h3.1
    have h5 := and2 h4.1
    exact ⟨st_zip h h5.1 h5.2 h4.2 h3.2 (ia C X W _ h tk h2.2).1 (ib C X W _ h tk h1.2).1, fun x => rfl⟩
  · simp at hc
mutual
theorem okE : ∀ ie : IE, OkE P T n ie
  | .k d => ok_k d
  | .v i => ok_v i
  | .gl x d => ok_gl x d
  | .tup es => ok_tup (okEs es)
  | .lst es => ok_lst (okEs es)
  | .op o a b => ok_op (okE a) (okE b)
  | .neg a => ok_neg (okE a)
  | .not a => ok_not (okE a)
  | .bool w es => ok_bool (okEs es)
  | .cmp o a b => ok_cmp (okE a) (okE b)
  | .ife t a b => ok_ife (okE t) (okE a) (okE b)
  | .idx a b => ok_idx (okE a) (okE b)
  | .kidx y tbl b => ok_kidx (okE b)
  | .slice a lo hi => ok_slice (okE a) (okO lo) (okO hi)
  | .rev a => ok_rev (okE a)
  | .tupR a => ok_tupR (okE a)
  | .call f es kws ks => ok_call (okEs es) (okEs ks)
  | .bi b es => ok_bi (okEs es)
  | .isin a ts => ok_isin (okE a)
  | .meth m o es => ok_meth (okE o) (okEs es)
  | .comp own elt t it cond => ok_comp (okE elt) (okI it) (okO cond)
theorem okEs : ∀ es : IEs, OkEs P T n es
  | .nil => ok_nil
  | .cons e es => ok_cons (okE e) (okEs es)
theorem okO : ∀ o : IO, OkO P T n o
  | .none => ok_onone
  | .some e => ok_osome (okE e)
theorem okI : ∀ it : II, OkI P T n it
  | .sq a => ok_sq (okE a)
  | .rng1 a => ok_rng1 (okE a)
  | .rng2 a b => ok_rng2 (okE a) (okE b)
  | .enm a => ok_enm (okE a)
  | .zip a b => ok_zip (okE a) (okE b)
end
end OC

namespace OC
open PySem PySem.Spec PyProof.Rows L2
/-! ### an own exception with one field is made -/
section
variable {X : Cx}
def tMkF (K : PySem.W.Frag) (C : Addr) (fl : Str) (ta : TA) : L2.St → Hp → XK → Prop := fun σ H Q => ta σ H fun vs H1 => ∃ (v : V) (p : PyData), vs = [v] ∧ Dp K H1 v p ∧ p.showable = true ∧ p.plain = true ∧ p.depth ≤ 30 ∧ p.shown.length + 1000 ≤ sizeLine ∧ (∀ x, p ≠ .str x) ∧
  ∀ d, H1 d = none → Q (.ref C) (some d) (upd H1 d (.xd [(fl, v)]))
theorem guards_make {A : Around} {C : Addr} {us : List Value} (h : A.guards = some []) : (A.under (.builtin "type.__call__" ⟨.ref C :: us, []⟩)).guards = some [] := by
  have e : Code.guards (.builtin "type.__call__" ⟨.ref C :: us, []⟩) = [] := by
    have z : Code.isGuard (.builtin "type.__call__" ⟨.ref C :: us, []⟩) = false := by
      show guardIds.contains "type.__call__" = false
      decide +kernel
    unfold Code.guards
    rw [z]; rfl
  show pushGuards (Code.guards (.builtin "type.__call__" ⟨.ref C :: us, []⟩)) A.guards = some []
  rw [e]
  exact h
theorem sq_up {K : PySem.W.Frag} {H : Hp} {p a : Addr} {o : HO} {xs : List V} (hp : H p = none) : (SqL K H a xs → SqL K (upd H p o) a xs) ∧ (SqT K H a xs → SqT K (upd H p o) a xs) := by
  have ne : ∀ {u : HO}, H a = some u → a ≠ p := fun {u} h z => by rw [z, hp] at h; cases h
  refine ⟨fun h => ?_, fun h => ?_⟩
  · rcases h with (h | ⟨ob, h⟩) | h
    · exact .inl (.inl ((upd_ne (ne h)).trans h))
    · exact .inl (.inr ⟨ob, (upd_ne (ne h)).trans h⟩)
    · exact .inr h
  · rcases h with (h | ⟨ob, h⟩) | h
    · exact .inl (.inl ((upd_ne (ne h)).trans h))
    · exact .inl (.inr ⟨ob, (upd_ne (ne h)).trans h⟩)
    · exact .inr h
mutual
theorem dp_up {K : PySem.W.Frag} {H : Hp} {p : Addr} {o : HO} (hp : H p = none) : ∀ {v : V} {d : PyData}, Dp K H v d → Dp K (upd H p o) v d
  | _, _, .non => .non
  | _, _, .bl b => .bl b
  | _, _, .int i => .int i
  | _, _, .str x => .str x
  | _, _, .lst h r => .lst ((sq_up hp).1 h) (dps_up hp r)
  | _, _, .tup h r => .tup ((sq_up hp).2 h) (dps_up hp r)
theorem dps_up {K : PySem.W.Frag} {H : Hp} {p : Addr} {o : HO} (hp : H p = none) : ∀ {vs : List V} {ds : List PyData}, DpAll K H vs ds → DpAll K (upd H p o) vs ds
  | _, _, .nil => .nil
  | _, _, .cons h r => .cons (dp_up hp h) (dps_up hp r)
end
theorem heap_back {H : Hp} {a d : Addr} {C : Addr} {fs : List (Str × V)} {o1 o2 o3 : HO} (ha : H a = none) (hd : d ≠ a) : upd (del (upd (upd (upd H a o1) d o2) a o3) a) d (.xd fs) = upd H d (.xd fs) := by
  funext b
  by_cases hb : b = d
  · subst hb; rw [upd_same, upd_same]
  · rw [upd_ne hb, upd_ne hb]
    by_cases hba : b = a
    · subst hba; rw [del_same, ha]
    · rw [del_ne hba, upd_ne hba, upd_ne hb, upd_ne hba]
theorem pmk_exf {x fl : Str} {C : Addr} {e : Expr} {ta : TA} {p pos : Pos} (T : ExfOk X.prog X.w X.K X.mg X.base x fl C) (hgu : X.A.guards = some []) (hr : Room 3 X.A) (hcx : Passes (L2.CX X.prog X.w) X (fun _ _ _ => False)) (hgl : Gl X x) (hdb : (x == ("__debug__" : Str)) = false) (hst : notStar e = true) (ha : PA X [e] ta) :
    PMk X (.Call (.Name x p) [e] [] pos) (tMkF X.K C fl ta) := by
  obtain ⟨fI, fd, iC, tI, F1, hb⟩ := T.ini
  intro pins s σ H Q I h
  obtain ⟨nm, q, N, bs, bm, sn, sub, ab, col, dd, k0, k1, k2, k3, k5, hC, hbm⟩ := T.oc.cls
  have he : starEach [e] X.env = (false, eval e X.env) :: starEach [] X.env := star_cons hst
  refine wpAny_Call_Name_kw (ld_glob I hgl T.gl ?_ hdb)
  refine PySem.W.callWith_K (K := X.K) (h₀ := X.base) I.ok.mod.kin T.oc.kC (thn (ha.run pos pins s σ H _ I h) fun us s1 ⟨vs, H1, I1, r1, q1⟩ => ⟨I1.kIn, ?_⟩) he rfl
  obtain ⟨v, pd, rfl, dp, p1, p2, p3, p4, p5, q2⟩ := q1
  obtain ⟨u, rfl, ru⟩ := vals1 r1
  show wpAny _ _ (call (.ref C) [u]) _ _ _
  obtain ⟨hp, g, dr, tk, os⟩ := s1
  let a : Addr := hp.objs.size + 1
  have hsz : hp.objs.size ≤ a := Nat.le_succ _
  have hn : H1 a = none := I1.hok.fresh hsz
  have kk : ∀ b o, hp.get? b = some o → ((hp.push (PySem.W.kdv_tup [u])).push (PySem.HandSPX.excO C hp.objs.size)).get? b = some o := fun b o z => Heap.get?_push_of_some _ (Heap.get?_push_of_some _ z)
  have hget : ((hp.push (PySem.W.kdv_tup [u])).push (PySem.HandSPX.excO C hp.objs.size)).get? (hp.objs.size + 1) = some (PySem.HandSPX.excO C hp.objs.size) := by heap_get
  have I2 : Inv X pins σ (upd H1 a (exo a C none)) ⟨(hp.push (PySem.W.kdv_tup [u])).push (PySem.HandSPX.excO C hp.objs.size), g, dr, tk, os⟩ :=
    I1.laid (t' := tk) (a := a) (o := exo a C none) (h' := (hp.push (PySem.W.kdv_tup [u])).push (PySem.HandSPX.excO C hp.objs.size)) kk hsz (exo_ok hget)
  have dp2 : Dp X.K (upd H1 a (exo a C none)) v pd := dp_up hn dp
  have hsp : spInit X.K C fl [.ref a, v] (upd H1 a (exo a C none)) (fun w H2 => w = .non ∧ ∃ (d : Addr) (fs : List (Str × V)), H2 a = some (exo a C (some d)) ∧ H2 d = some (exd d fs) ∧ H1 d = none ∧ Q (.ref C) (some d) (upd (del H2 a) d (.xd fs))) (fun _ _ _ => False) := by
    refine ⟨a, v, pd, rfl, upd_same, dp2, p1, p2, p3, p4, p5, fun dx hx hne => ⟨rfl, dx, [(fl, v)], upd_same, ?_, ?_, ?_⟩⟩
    · rw [upd_ne hne, upd_same]
    · rw [upd_ne hne] at hx; exact hx
    · rw [heap_back (C := C) hn hne]
      refine q2 dx ?_
      rw [upd_ne hne] at hx; exact hx
  have r2 : Vals [V.ref a, v] [Value.ref a, u] := .cons rfl (.cons ru .nil)
  have b3 := hb ⟨(hp.push (PySem.W.kdv_tup [u])).push (PySem.HandSPX.excO C hp.objs.size), g, dr, tk, os⟩ [Value.ref a, u] I2.kIn rfl
  rw [List.append_nil] at b3
  refine wpAny_call (PySem.HandSPX.call_own PySem.F.excBase_ValueError (fun Y => PySem.HandSPX.refsVE_contains Y bm hbm) (I1.kIn _ _ hC) (PySem.W.looks_findIn I1.kIn iC) (fun self => PySem.W.bind_fn I1.kIn self tI) (by rw [sizeLine_eq]; exact Nat.le_of_ble_eq_true rfl)
    (codeAny_mono (F1.run _ X.stack _ _ ⟨[Value.ref a, u], []⟩ [Value.ref a, u] [V.ref a, v] _ (fun _ _ _ => False) (guards_make hgu) (hr.make C [u] []) (I2.env0.make C [u] []) b3 r2 hsp) fun r s' hq' => ?_))
  cases r with
  | error er => exact hcx pins σ _ _ er s' I2 hq'
  | ok fl =>
    cases fl with
    | ret u2 =>
      obtain ⟨v2, H2, os2, bare2, un2, hok2, rv, ev, d, fs, ea, ed, hd1, q3⟩ := hq'
      subst ev
      obtain ⟨h2, g2, d2, t2, os'⟩ := s'
      exact ⟨rv, mk_end (raises_own T.oc.exC T.oc.tyC) I1 hsz kk un2 hok2 os2 bare2 ea ed hd1 q3⟩
    | next => exact False.elim hq'
    | brk => exact False.elim hq'
    | cont => exact False.elim hq'
end
end OC

namespace OC
open PySem PySem.Spec PyProof.Rows L2
/-! ### statements: what is checked -/
def noComp : Expr → Bool
  | .ListComp _ _ _ _ => false
  | .SetComp _ _ _ _ => false
  | .DictComp _ _ _ _ _ => false
  | _ => true
def locN (C : SC) : Expr → Bool
  | .Name x _ => kindB C.sc x .local
  | _ => false
def swNone (C : SC) (ts : List Expr) : Expr → Bool
  | .Tuple vs _ _ => !(ts.length == 2 || ts.length == 3) || vs.length != ts.length || vs.all (foldedForSure 8) || ts.any (fun t => !locN C t)
  | _ => true
def parOk (C : SC) (x : Str) (p : Pos) (l : Nat) : Bool := kindB C.sc x .local && p.line == l
def SC.suite (C : SC) : SC := { C with calm := false, top := false }
def isFnName (x : Str) : Bool := !(x == ("__debug__" : Str))
def setB (T : Tab) (C : SC) (t : IT) (e : IE) (tg v : Expr) : Bool :=
  match t, tg with
  | .nm i, .Name x px => (match C.N[i]? with | some y => y == x | none => false) && stoB C x && ckE T C e v &&
      (match v with
        | .ListComp _ [⟨_, _, _, 0⟩] scope p => kindB C.sc x .local && (px.line == p.line) && !(scope.names.any fun (n, k) => n == x && (k == .local || k == .cell))
        | v => noComp v)
  | .tup [i, j], .Tuple [.Name x px, .Name y py] kt pt =>
    (match e, v with
      | .tup es, .Tuple [a, b] k2 pt2 => if swNone C [.Name x px, .Name y py] v then ckT C t tg && ckE T C e v else
          C.calm && decide (i ≠ j) && (x != y) && parOk C x px px.line && parOk C y py px.line && (match C.N[i]? with | some z => z == x | none => false) && (match C.N[j]? with | some z => z == y | none => false) && ckEs T C es [a, b] && !([a, b].all (constantsAlone 8))
      | e, v => noComp v && swNone C [.Name x px, .Name y py] v && ckT C t tg && ckE T C e v)
  | .tup [i, j, l], .Tuple [.Name x px, .Name y py, .Name z pz] kt pt =>
    (match e, v with
      | .tup es, .Tuple [a, b, c] k2 pt2 => if swNone C [.Name x px, .Name y py, .Name z pz] v then ckT C t tg && ckE T C e v else
          C.calm && decide (i ≠ j) && decide (i ≠ l) && decide (j ≠ l) && (x != y) && (x != z) && (y != z) && parOk C x px px.line && parOk C y py px.line && parOk C z pz px.line && (match C.N[i]? with | some u => u == x | none => false) && (match C.N[j]? with | some u => u == y | none => false) && (match C.N[l]? with | some u => u == z | none => false) &&
          ckEs T C es [a, b, c] && !([a, b, c].all (constantsAlone 8))
      | e, v => noComp v && swNone C [.Name x px, .Name y py, .Name z pz] v && ckT C t tg && ckE T C e v)
  | .tup _, .Tuple ts _ _ => noComp v && swNone C ts v && ckT C t tg && ckE T C e v
  | _, _ => false
mutual
def ckS (T : Tab) (C : SC) : IS → Stmt → Bool
  | .set t e => fun s => match s with
    | .Assign [tg] v _ => setB T C t e tg v
    | _ => false
  | .setI o i e => fun s => match s with
    | .Assign [.Subscript l r _] v _ => notSlice r && ckE T C o l && ckE T C i r && ckE T C e v
    | _ => false
  | .aug i o e => fun s => match s with
    | .AugAssign (.Name x _) p v _ => decide (o = .add ∨ o = .sub) && opB o p && (match C.N[i]? with | some y => y == x | none => false) && stoB C x && ckE T C e v
    | _ => false
  | .ex e => fun s => match s with
    | .Expr v _ => noComp v && ckE T C e v
    | _ => false
  | .ret e => fun s => match s with
    | .Return (some v) _ => ckE T C e v
    | _ => false
  | .retN => fun s => match s with
    | .Return none _ => true
    | _ => false
  | .ifs t a b => fun s => match s with
    | .If u xs ys _ => ckE T C t u && ckSs T C a xs && ckSs T C b ys
    | _ => false
  | .for t it b => fun s => match s with
    | .For tg iter xs [] _ => C.calm && ckI T C it tg iter && ckT C t tg && ckSs T C b xs
    | _ => false
  | .raiseT c => fun s => match s with
    | .Raise (some (.Call (.Name x _) [.Constant (.str _) _ _] [] _)) none _ => C.calm && x == c && glB C.sc x && T.excs.contains x && T.exf.all (fun q => q.1 != x)
    | _ => false
  | .raiseF c fl e => fun s => match s with
    | .Raise (some (.Call (.Name x _) [a] [] _)) none _ => C.calm && x == c && glB C.sc x && T.exf.contains (x, fl) && notStar a && ckE T C e a
    | _ => false
  | .any => fun _ => true
  | .try known b hs => fun s => match s with
    | .Try xs hds [] [] _ => C.top && known.all (fun x => T.excs.contains x) && ckSs T C b xs && (match hs with
      | .as c i fl t .nil => (match hds with
        | [.ExceptHandler (some (.Name x _)) (some nm) [.Assign [.Name y _] (.Attribute (.Name z _) g _) _] _] =>
            x == c && glB C.sc x && T.excs.contains x && T.exf.contains (x, fl) && g == fl && z == nm && (match C.N[i]? with | some u => u == nm | none => false) && kindB C.sc nm .local && visB C.sc nm &&
            (match C.N[t]? with | some u => u == y | none => false) && stoB C y && decide (i ≠ t)
        | _ => false)
      | _ => ckHs T C hs hds) && (match hds with | [] => false | _ => true)
    | _ => false
  | .pass => fun s => match s with
    | .Pass _ => true
    | .Expr (.Constant (.str _) _ _) _ => true
    | _ => false
  | .brk => fun s => match s with
    | .Break _ => true
    | _ => false
  | .cont => fun s => match s with
    | .Continue _ => true
    | _ => false
def ckSs (T : Tab) (C : SC) : ISs → List Stmt → Bool
  | .nil => fun xs => match xs with
    | [] => true
    | _ => false
  | .cons s ss => fun xs => match xs with
    | x :: xs => ckS T C s x && ckSs T C ss xs
    | _ => false
def ckHs (T : Tab) (C : SC) : IHs → List ExceptHandler → Bool
  | .nil => fun hs => match hs with
    | [] => true
    | _ => false
  | .as _ _ _ _ _ => fun _ => false
  | .cons c b hs => fun hds => match hds with
    | .ExceptHandler (some (.Name x _)) none xs _ :: hds => x == c && glB C.sc x && T.excs.contains x && ckSs T C.suite b xs && (match xs with | [] => false | _ => true) && ckHs T C hs hds
    | _ => false
end
/-! ### what a statement leaves -/
variable {K : PySem.W.Frag} {mg : Str → Option Value}
def OutS (K : PySem.W.Frag) (mg : Str → Option Value) (W : WX) (Dn : Ends) (ρ : List Addr) (H : Hp) : Fl → GH → Prop
  | .nx dσ, G' => ∀ σ' H' ρ', Sto K ρ' G' H' → Ext K ρ H ρ' H' → RepS K ρ' H' dσ σ' → Dn.nx σ' H'
  | .bk dσ, G' => ∀ σ' H' ρ', Sto K ρ' G' H' → Ext K ρ H ρ' H' → RepS K ρ' H' dσ σ' → Dn.bk σ' H'
  | .ct dσ, G' => ∀ σ' H' ρ', Sto K ρ' G' H' → Ext K ρ H ρ' H' → RepS K ρ' H' dσ σ' → Dn.ct σ' H'
  | .rt d, G' => ∀ v H' ρ', Sto K ρ' G' H' → Ext K ρ H ρ' H' → RepV K ρ' H' d v → Dn.rt v H'
  | .xn c f dσ, G' => ∀ cls d σ' H' ρ', Sto K ρ' G' H' → Ext K ρ H ρ' H' → RepS K ρ' H' dσ σ' → RepX K mg ρ' H' c f cls d → W cls d σ' H'
theorem OutS.up {W : WX} {Dn : Ends} {ρ ρ1 : List Addr} {H H1 : Hp} {fl : Fl} {G : GH} (e : Ext K ρ H ρ1 H1) (h : OutS K mg W Dn ρ H fl G) : OutS K mg W Dn ρ1 H1 fl G := by
  cases fl with
  | nx dσ => exact fun σ' H' ρ' S x r => h σ' H' ρ' S (e.trans x) r
  | bk dσ => exact fun σ' H' ρ' S x r => h σ' H' ρ' S (e.trans x) r
  | ct dσ => exact fun σ' H' ρ' S x r => h σ' H' ρ' S (e.trans x) r
  | rt d => exact fun v H' ρ' S x r => h v H' ρ' S (e.trans x) r
  | xn c f dσ => exact fun cls d σ' H' ρ' S x r y => h cls d σ' H' ρ' S (e.trans x) r y
/-- a statement's reading -/
def tSt (K : PySem.W.Frag) (mg : Str → Option Value) (W : WX) (m : Env' → M Fl) : TS := fun Dn σ H => ∃ ρ G dσ, Sto K ρ G H ∧ RepS K ρ H dσ σ ∧ Post (m dσ) G (OutS K mg W Dn ρ H) noex
theorem Post.within {m : M D} {σ : Env'} {f : D → M Fl} {G : GH} {ok : Fl → GH → Prop} (h : Post (within m σ f) G ok noex) : Post m G (fun d G1 => Post (f d) G1 ok noex) (fun c v G1 => ok (.xn c v σ) G1) := by
  unfold Post OC.within at h
  unfold Post
  cases e : m G with
  | ok d G1 => rw [e] at h; exact h
  | exn c v G1 => rw [e] at h; exact h
  | bad => rw [e] at h; exact h
theorem Post.withinI {m : M (List D × Guard)} {σ : Env'} {f : List D × Guard → M Fl} {G : GH} {ok : Fl → GH → Prop} (h : Post (withinI m σ f) G ok noex) : Post m G (fun d G1 => Post (f d) G1 ok noex) (fun c v G1 => ok (.xn c v σ) G1) := by
  unfold Post OC.withinI at h
  unfold Post
  cases e : m G with
  | ok d G1 => rw [e] at h; exact h
  | exn c v G1 => rw [e] at h; exact h
  | bad => rw [e] at h; exact h
theorem Post.thenS {m : M Fl} {f : Env' → M Fl} {G : GH} {ok : Fl → GH → Prop} (h : Post (thenS m f) G ok noex) : Post m G (fun fl G1 => match fl with | .nx σ => Post (f σ) G1 ok noex | r => ok r G1) noex := by
  unfold Post OC.thenS at h
  unfold Post
  cases e : m G with
  | ok d G1 =>
    rw [e] at h
    cases d <;> exact h
  | exn c v G1 => rw [e] at h; exact h
  | bad => rw [e] at h; exact h
theorem xw {W : WX} {Dn : Ends} {ρ ρ0 : List Addr} {H H0 : Hp} {dσ : Env'} {σ : L2.St} (hs : RepS K ρ H dσ σ) {c : Str} {v : Option D} {G1 : GH} (h : OutS K mg W Dn ρ H (.xn c v dσ) G1) : ExW K mg W σ ρ H c v G1 :=
  fun cls d H' ρ' S x r => h cls d σ H' ρ' S x (hs.ext x) r
/-- read an expression within a statement -/
theorem tI_in {W : WX} {Dn : Ends} {m : Env' → M D} {f : D → M Fl} {ρ ρ0 : List Addr} {H H0 : Hp} {G : GH} {dσ : Env'} {σ : L2.St} {Q : VK} (S : Sto K ρ G H) (hs : RepS K ρ H dσ σ) (e0 : Ext K ρ0 H0 ρ H)
    (h : Post (within (m dσ) dσ f) G (OutS K mg W Dn ρ0 H0) noex)
    (k : ∀ d G' v H' ρ', Post (f d) G' (OutS K mg W Dn ρ0 H0) noex → Sto K ρ' G' H' → Ext K ρ H ρ' H' → RepV K ρ' H' d v → Q v H') : tI K mg W m σ H Q :=
  tI_of (ρ0 := ρ) (H0 := H) S hs Ext.refl (h.within.mono (fun _ _ q => q) fun c v G1 q => xw (ρ0 := ρ0) (H0 := H0) hs (OutS.up e0 q)) k
theorem tT_in {W : WX} {Dn : Ends} {m : Env' → M D} {f : D → M Fl} {ρ ρ0 : List Addr} {H H0 : Hp} {G : GH} {dσ : Env'} {σ : L2.St} {Q : Bool → Hp → Prop} (S : Sto K ρ G H) (hs : RepS K ρ H dσ σ) (e0 : Ext K ρ0 H0 ρ H)
    (h : Post (within (m dσ) dσ f) G (OutS K mg W Dn ρ0 H0) noex) (kb : ∀ d G', Post (f d) G' (OutS K mg W Dn ρ0 H0) noex → ∃ b, d = .bl b)
    (k : ∀ b G' H' ρ', Post (f (.bl b)) G' (OutS K mg W Dn ρ0 H0) noex → Sto K ρ' G' H' → Ext K ρ H ρ' H' → Q b H') : tT K mg W m σ H Q :=
  tT_of (ρ0 := ρ) (H0 := H) S hs Ext.refl (h.within.mono (fun _ _ q => q) fun c v G1 q => xw (ρ0 := ρ0) (H0 := H0) hs (OutS.up e0 q)) kb k
theorem sw_plain {e : Expr} {t : Option Expr} {l : Nat} {env : Env} (h : noComp e = true) : swapsWith e t l env = pure false := by
  cases e <;> first | rfl | (simp [noComp] at h)
theorem sw_other {e t : Expr} {l : Nat} {env : Env} (h : (match t with | .Name _ _ => false | _ => true) = true) : swapsWith e (some t) l env = pure false := by
  cases e <;> first | rfl | (cases t <;> first | rfl | (simp at h))
theorem ps_kind {X : Cx} {st : Stmt} {t : TS} (h : X.env.scope.kind = .function → PS X st t) : PS X st t := ⟨fun pins s σ H D I q => (h I.ok.kind).run pins s σ H D I q⟩
theorem filterMap_short {α β : Type} {f : α → Option β} {p : α → Bool} (hp : ∀ a, p a = true → f a = none) : ∀ {l : List α}, l.any p = true → (l.filterMap f).length < l.length
  | [], h => by simp at h
  | a :: l, h => by
    rw [List.any_cons, Bool.or_eq_true] at h
    by_cases ha : p a = true
    · rw [List.filterMap_cons_none (hp a ha)]
      have := List.length_filterMap_le f l
      simp only [List.length_cons]; omega
    · have := filterMap_short hp (h.resolve_left ha)
      cases e : f a with
      | none => rw [List.filterMap_cons_none e]; simp only [List.length_cons]; omega
      | some b => rw [List.filterMap_cons_some e]; simp only [List.length_cons]; omega
theorem swNone_ok {C : SC} {ts : List Expr} {k : Nat} {p : Pos} {v : Expr} {env : Env} (hsc : env.scope = C.sc) (h : swNone C ts v = true) : swappedStores [.Tuple ts k p] v env = pure none := by
  cases v with
  | Tuple vs k2 p2 =>
    unfold swNone at h
    unfold swappedStores
    simp only [Bool.or_eq_true] at h
    rcases h with ((h | h) | h) | h
    · simp only [h, Bool.true_or, if_true]
    · simp only [h, Bool.or_true, Bool.true_or, if_true]
    · simp only
      split
      · rfl
      · split
        · rfl
        · split
          · rfl
          · simp only [h, if_true]
            try rfl
    · simp only
      split
      · rfl
      · split
        · rfl
        · split
          · rfl
          · rename_i hh
            refine absurd ?_ hh
            have sh := filterMap_short (f := fun
              | .Name id pos => if env.kindOf id == some .local && pos.line == (ts.head?.map (·.pos.line)).getD 0 then some id else none
              | _ => none) (p := fun t => !locN C t) (fun a ha => by
                cases a with
                | Name x px =>
                  have ha : locN C (.Name x px) = false := by simpa using ha
                  have hk : (env.kindOf x == some .local) = false := by
                    unfold locN kindB at ha
                    show (env.scope.names.lookup x == some .local) = false
                    rw [hsc]; exact ha
                  show (if (env.kindOf x == some .local && _) = true then _ else none) = none
                  rw [hk]; rfl
                | _ => rfl) h
            rw [Bool.or_eq_true]
            left
            rw [bne_iff_ne]
            exact Nat.ne_of_lt sh
  | _ => rfl
theorem swOther_ok {o i : Expr} {p : Pos} {v : Expr} {env : Env} : swappedStores [.Subscript o i p] v env = pure none := by
  cases v <;> rfl
end OC

namespace OC
open PySem PySem.Spec PyProof.Rows L2
def tbl_MET : List (D × D) := [((.tup [(.int (-1)), (.int (-1))]), (.int 2)), ((.tup [(.int 0), (.int (-1))]), (.int 3)), ((.tup [(.int 1), (.int (-1))]), (.int 4)), ((.tup [(.int 1), (.int 0)]), (.int 5)), ((.tup [(.int 0), (.int 0)]), (.int 6)), ((.tup [(.int (-1)), (.int 0)]), (.int 7)), ((.tup [(.int (-1)), (.int 1)]), (.int 8)), ((.tup [(.int 0), (.int 1)]), (.int 9)), ((.tup [(.int 1), (.int 1)]), (.int 10))]
def f_is_integer : Fn := ⟨"is_integer", ["thing"], ["thing"],
    (.cons (.ret (.bool true (.cons (.isin (.v 0) [.int]) (.cons (.not (.isin (.v 0) [.bool])) .nil))))
    .nil)⟩
def f_is_from : Fn := ⟨"is_from", ["low", "thing"], ["low", "thing"],
    (.cons (.ret (.bool true (.cons (.call 0 (.cons (.v 1) .nil) [] .nil) (.cons (.cmp .ge (.v 1) (.v 0)) .nil))))
    .nil)⟩
def f_is_below : Fn := ⟨"is_below", ["many", "thing"], ["many", "thing"],
    (.cons (.ret (.bool true (.cons (.call 1 (.cons (.k (.int 0)) (.cons (.v 1) .nil)) [] .nil) (.cons (.cmp .lt (.v 1) (.v 0)) .nil))))
    .nil)⟩
def f_is_tuple : Fn := ⟨"is_tuple", ["many", "thing"], ["many", "thing"],
    (.cons (.ret (.bool true (.cons (.isin (.v 1) [.tup]) (.cons (.bool false (.cons (.cmp .is (.v 0) (.k .non)) (.cons (.cmp .eq (.bi .len (.cons (.v 1) .nil)) (.v 0)) .nil))) .nil))))
    .nil)⟩
def f_is_ascending : Fn := ⟨"is_ascending", ["members"], ["members", "one", "later"],
    (.cons (.ret (.bi .all (.cons (.comp [("one", 1), ("later", 2)] (.cmp .lt (.v 1) (.v 2)) (.tup [1, 2]) (.zip (.v 0) (.slice (.v 0) (.some (.k (.int 1))) .none)) .none) .nil)))
    .nil)⟩
def f_is_number : Fn := ⟨"is_number", ["value"], ["value"],
    (.cons (.ifs (.bool false (.cons (.not (.call 3 (.cons (.k (.int 2)) (.cons (.v 0) .nil)) [] .nil)) (.cons (.not (.call 0 (.cons (.idx (.v 0) (.k (.int 0))) .nil) [] .nil)) (.cons (.not (.call 1 (.cons (.k (.int 1)) (.cons (.idx (.v 0) (.k (.int 1))) .nil)) [] .nil)) .nil))))
    (.cons (.ret (.k (.bl false)))
    .nil)
    .nil)
    (.cons (.ret (.cmp .eq (.bi .gcd (.cons (.idx (.v 0) (.k (.int 0))) (.cons (.idx (.v 0) (.k (.int 1))) .nil))) (.k (.int 1))))
    .nil))⟩
def f_ahead : Fn := ⟨"ahead", ["number", "other"], ["number", "other"],
    (.cons (.ret (.cmp .lt (.op .mul (.idx (.v 0) (.k (.int 0))) (.idx (.v 1) (.k (.int 1)))) (.op .mul (.idx (.v 1) (.k (.int 0))) (.idx (.v 0) (.k (.int 1))))))
    .nil)⟩
def f_is_stretch_in : Fn := ⟨"is_stretch_in", ["thing"], ["thing"],
    (.cons (.ret (.bool true (.cons (.call 3 (.cons (.k (.int 2)) (.cons (.v 0) .nil)) [] .nil) (.cons (.call 5 (.cons (.idx (.v 0) (.k (.int 0))) .nil) [] .nil) (.cons (.call 5 (.cons (.idx (.v 0) (.k (.int 1))) .nil) [] .nil) (.cons (.call 6 (.cons (.idx (.v 0) (.k (.int 0))) (.cons (.idx (.v 0) (.k (.int 1))) .nil)) [] .nil) .nil))))))
    .nil)⟩
def f_is_stretch : Fn := ⟨"is_stretch", ["value"], ["value"],
    (.cons (.ret (.call 7 (.cons (.v 0) .nil) [] .nil))
    .nil)⟩
def f_check_stretch : Fn := ⟨"check_stretch", ["thing"], ["thing"],
    (.cons (.ifs (.not (.call 7 (.cons (.v 0) .nil) [] .nil))
    (.cons (.raiseT "InvalidStretch")
    .nil)
    .nil)
    .nil)⟩
def f_way_of_two : Fn := ⟨"way_of_two", ["number", "other"], ["number", "other"],
    (.cons (.ret (.op .sub (.bi .int (.cons (.call 6 (.cons (.v 1) (.cons (.v 0) .nil)) [] .nil) .nil)) (.bi .int (.cons (.call 6 (.cons (.v 0) (.cons (.v 1) .nil)) [] .nil) .nil))))
    .nil)⟩
def f_relation_in : Fn := ⟨"relation_in", ["one", "two"], ["one", "two"],
    (.cons (.ifs (.not (.call 6 (.cons (.idx (.v 1) (.k (.int 0))) (.cons (.idx (.v 0) (.k (.int 1))) .nil)) [] .nil))
    (.cons (.ret (.ife (.cmp .eq (.idx (.v 0) (.k (.int 1))) (.idx (.v 1) (.k (.int 0)))) (.k (.int 1)) (.k (.int 0))))
    .nil)
    .nil)
    (.cons (.ifs (.not (.call 6 (.cons (.idx (.v 0) (.k (.int 0))) (.cons (.idx (.v 1) (.k (.int 1))) .nil)) [] .nil))
    (.cons (.ret (.ife (.cmp .eq (.idx (.v 0) (.k (.int 0))) (.idx (.v 1) (.k (.int 1)))) (.k (.int 11)) (.k (.int 12))))
    .nil)
    .nil)
    (.cons (.ret (.kidx "MET" tbl_MET (.tup (.cons (.call 10 (.cons (.idx (.v 0) (.k (.int 0))) (.cons (.idx (.v 1) (.k (.int 0))) .nil)) [] .nil) (.cons (.call 10 (.cons (.idx (.v 0) (.k (.int 1))) (.cons (.idx (.v 1) (.k (.int 1))) .nil)) [] .nil) .nil)))))
    .nil)))⟩
def f_relation_of : Fn := ⟨"relation_of", ["stretch", "other_stretch"], ["stretch", "other_stretch"],
    (.cons (.ex (.call 9 (.cons (.v 0) .nil) [] .nil))
    (.cons (.ex (.call 9 (.cons (.v 1) .nil) [] .nil))
    (.cons (.ret (.call 11 (.cons (.v 0) (.cons (.v 1) .nil)) [] .nil))
    .nil)))⟩
def f_is_lot : Fn := ⟨"is_lot", ["thing"], ["thing", "one"],
    (.cons (.ret (.bool true (.cons (.call 3 (.cons (.k .non) (.cons (.v 0) .nil)) [] .nil) (.cons (.bi .all (.cons (.comp [("one", 1)] (.call 2 (.cons (.gl "RELATIONS" (.int 13)) (.cons (.v 1) .nil)) [] .nil) (.nm 1) (.sq (.v 0)) .none) .nil)) (.cons (.call 4 (.cons (.v 0) .nil) [] .nil) .nil)))))
    .nil)⟩
def f_check_lot : Fn := ⟨"check_lot", ["thing"], ["thing"],
    (.cons (.ifs (.not (.call 13 (.cons (.v 0) .nil) [] .nil))
    (.cons (.raiseT "InvalidLot")
    .nil)
    .nil)
    .nil)⟩
def f_turned_lot : Fn := ⟨"turned_lot", ["lot"], ["lot", "relation"],
    (.cons (.ex (.call 14 (.cons (.v 0) .nil) [] .nil))
    (.cons (.ret (.bi .tuple (.cons (.comp [("relation", 1)] (.op .sub (.op .sub (.gl "RELATIONS" (.int 13)) (.k (.int 1))) (.v 1)) (.nm 1) (.sq (.rev (.v 0))) .none) .nil)))
    .nil))⟩
def f__law_source : Fn := ⟨"_law_source", ["script", "at"], ["script", "at", "cell"],
    (.cons (.set (.nm 2) (.ife (.cmp .lt (.v 1) (.bi .len (.cons (.v 0) .nil))) (.bi .int (.cons (.bi .abs (.cons (.idx (.v 0) (.v 1)) .nil)) .nil)) (.op .add (.op .add (.op .mul (.k (.int 73)) (.v 1)) (.k (.int 46))) (.op .mod (.bi .int (.cons (.op .mul (.bi .sum (.cons (.slice (.v 0) .none (.some (.k (.int 63)))) .nil)) (.k (.int 7919))) .nil)) (.op .add (.op .pow (.k (.int 10)) (.k (.int 9))) (.k (.int 7)))))))
    (.cons (.set (.nm 2) (.op .mod (.bi .int (.cons (.v 2) .nil)) (.op .mul (.op .mul (.op .mul (.op .pow (.k (.int 10)) (.k (.int 60))) (.op .pow (.k (.int 10)) (.k (.int 60)))) (.op .pow (.k (.int 10)) (.k (.int 60)))) (.op .pow (.k (.int 10)) (.k (.int 60))))))
    (.cons (.ret (.lst (.cons (.ife (.cmp .ge (.v 2) (.op .pow (.k (.int 10)) (.k (.int 18)))) (.v 2) (.k (.int 0))) (.cons (.op .mod (.bi .int (.cons (.v 2) .nil)) (.op .add (.op .pow (.k (.int 10)) (.k (.int 18))) (.k (.int 9)))) (.cons (.op .mul (.k (.int 5)) (.v 1)) .nil)))))
    .nil)))⟩
def f__law_draw : Fn := ⟨"_law_draw", ["source", "many"], ["source", "many", "one", "figure"],
    (.cons (.ifs (.cmp .gt (.idx (.v 0) (.k (.int 0))) (.k (.int 0)))
    (.cons (.set (.nm 3) (.op .mod (.bi .int (.cons (.idx (.v 0) (.k (.int 0))) .nil)) (.v 1)))
    (.cons (.setI (.v 0) (.k (.int 0)) (.op .fdiv (.idx (.v 0) (.k (.int 0))) (.v 1)))
    (.cons (.ret (.v 3))
    .nil)))
    .nil)
    (.cons (.setI (.v 0) (.k (.int 2)) (.op .add (.idx (.v 0) (.k (.int 2))) (.k (.int 1))))
    (.cons (.set (.nm 2) (.op .mod (.bi .int (.cons (.op .add (.op .mul (.op .add (.op .add (.idx (.v 0) (.k (.int 1))) (.op .mul (.k (.int 104711)) (.idx (.v 0) (.k (.int 2))))) (.k (.int 17))) (.k (.int 92821))) (.k (.int 401))) .nil)) (.k (.int 2147483477))))
    (.cons (.set (.nm 2) (.op .mod (.bi .int (.cons (.op .add (.op .mul (.v 2) (.v 2)) (.op .mul (.k (.int 23)) (.idx (.v 0) (.k (.int 2))))) .nil)) (.k (.int 2147483399))))
    (.cons (.ret (.op .mod (.bi .int (.cons (.op .fdiv (.v 2) (.k (.int 29))) .nil)) (.v 1)))
    .nil)))))⟩
def f__law_pick : Fn := ⟨"_law_pick", ["source", "things"], ["source", "things"],
    (.cons (.ret (.idx (.v 1) (.call 17 (.cons (.v 0) (.cons (.bi .len (.cons (.v 1) .nil)) .nil)) [] .nil)))
    .nil)⟩
def f__law_same : Fn := ⟨"_law_same", ["found", "due"], ["found", "due", "at"],
    (.cons (.ifs (.isin (.v 1) [.tup, .lst])
    (.cons (.ifs (.bool false (.cons (.not (.isin (.v 0) [.tup, .lst])) (.cons (.cmp .ne (.isin (.v 0) [.tup]) (.isin (.v 1) [.tup])) (.cons (.cmp .ne (.bi .len (.cons (.v 0) .nil)) (.bi .len (.cons (.v 1) .nil))) .nil))))
    (.cons (.ret (.k (.bl false)))
    .nil)
    .nil)
    (.cons (.ret (.bi .all (.cons (.comp [("at", 2)] (.call 19 (.cons (.idx (.v 0) (.v 2)) (.cons (.idx (.v 1) (.v 2)) .nil)) [] .nil) (.nm 2) (.rng1 (.bi .len (.cons (.v 1) .nil))) .none) .nil)))
    .nil))
    .nil)
    (.cons (.ifs (.cmp .is (.v 1) (.k .non))
    (.cons (.ret (.cmp .is (.v 0) (.k .non)))
    .nil)
    .nil)
    (.cons (.ifs (.isin (.v 1) [.bool])
    (.cons (.ret (.bool true (.cons (.isin (.v 0) [.bool]) (.cons (.cmp .eq (.v 0) (.v 1)) .nil))))
    .nil)
    .nil)
    (.cons (.ifs (.isin (.v 1) [.str])
    (.cons (.ret (.bool true (.cons (.isin (.v 0) [.str]) (.cons (.cmp .eq (.v 0) (.v 1)) .nil))))
    .nil)
    .nil)
    (.cons (.ret (.bool true (.cons (.isin (.v 0) [.int]) (.cons (.not (.isin (.v 0) [.bool])) (.cons (.cmp .eq (.v 0) (.v 1)) .nil)))))
    .nil)))))⟩
def f__law_ahead : Fn := ⟨"_law_ahead", ["one", "other"], ["one", "other"],
    (.cons (.ret (.cmp .lt (.op .mul (.idx (.v 0) (.k (.int 0))) (.idx (.v 1) (.k (.int 1)))) (.op .mul (.idx (.v 1) (.k (.int 0))) (.idx (.v 0) (.k (.int 1))))))
    .nil)⟩
def f__law_low : Fn := ⟨"_law_low", ["top", "bottom"], ["top", "bottom", "turn", "one", "two"],
    (.cons (.set (.tup [3, 4]) (.tup (.cons (.bi .abs (.cons (.v 0) .nil)) (.cons (.v 1) .nil))))
    (.cons (.for (.nm 2) (.rng1 (.k (.int 500)))
    (.cons (.ifs (.cmp .gt (.v 4) (.k (.int 0)))
    (.cons (.set (.tup [3, 4]) (.tup (.cons (.v 4) (.cons (.op .mod (.bi .int (.cons (.v 3) .nil)) (.v 4)) .nil))))
    .nil)
    .nil)
    .nil))
    (.cons (.ret (.tup (.cons (.op .fdiv (.v 0) (.v 3)) (.cons (.op .fdiv (.v 1) (.v 3)) .nil))))
    .nil)))⟩
def f__law_sorted : Fn := ⟨"_law_sorted", ["numbers"], ["numbers", "found", "number", "at", "one"],
    (.cons (.set (.nm 1) (.lst .nil))
    (.cons (.for (.nm 2) (.sq (.v 0))
    (.cons (.ifs (.cmp .notin (.v 2) (.v 1))
    (.cons (.set (.nm 3) (.bi .len (.cons (.comp [("one", 4)] (.v 4) (.nm 4) (.sq (.v 1)) (.some (.call 20 (.cons (.v 4) (.cons (.v 2) .nil)) [] .nil))) .nil)))
    (.cons (.set (.nm 1) (.op .add (.op .add (.slice (.v 1) .none (.some (.v 3))) (.lst (.cons (.v 2) .nil))) (.slice (.v 1) (.some (.v 3)) .none)))
    .nil))
    .nil)
    .nil))
    (.cons (.ret (.v 1))
    .nil)))⟩
def f__law_number : Fn := ⟨"_law_number", ["source"], ["source", "great", "way", "top"],
    (.cons (.set (.tup [2, 3]) (.tup (.cons (.call 17 (.cons (.v 0) (.cons (.k (.int 8)) .nil)) [] .nil) (.cons (.op .sub (.call 17 (.cons (.v 0) (.cons (.k (.int 11)) .nil)) [] .nil) (.k (.int 5))) .nil))))
    (.cons (.ifs (.cmp .lt (.v 2) (.k (.int 4)))
    (.cons (.ret (.tup (.cons (.v 3) (.cons (.k (.int 1)) .nil))))
    .nil)
    .nil)
    (.cons (.ifs (.cmp .lt (.v 2) (.k (.int 6)))
    (.cons (.ret (.call 21 (.cons (.op .add (.op .mul (.k (.int 2)) (.v 3)) (.k (.int 1))) (.cons (.op .add (.k (.int 1)) (.call 17 (.cons (.v 0) (.cons (.k (.int 6)) .nil)) [] .nil)) .nil)) [] .nil))
    .nil)
    .nil)
    (.cons (.set (.nm 1) (.op .mul (.op .add (.op .pow (.k (.int 10)) (.k (.int 29))) (.k (.int 7))) (.op .sub (.op .mul (.k (.int 2)) (.call 17 (.cons (.v 0) (.cons (.k (.int 2)) .nil)) [] .nil)) (.k (.int 1)))))
    (.cons (.ret (.ife (.cmp .eq (.v 2) (.k (.int 6))) (.tup (.cons (.op .add (.v 1) (.v 3)) (.cons (.k (.int 1)) .nil))) (.call 21 (.cons (.op .add (.op .mul (.k (.int 3)) (.v 1)) (.v 3)) (.cons (.k (.int 3)) .nil)) [] .nil)))
    .nil)))))⟩
def f__law_constants : Fn := ⟨"_law_constants", ["source", "many"], ["source", "many", "turn"],
    (.cons (.ret (.bi .tuple (.cons (.call 22 (.cons (.comp [("turn", 2)] (.call 23 (.cons (.v 0) .nil) [] .nil) (.nm 2) (.rng1 (.call 17 (.cons (.v 0) (.cons (.op .add (.v 1) (.k (.int 1))) .nil)) [] .nil)) .none) .nil) [] .nil) .nil)))
    .nil)⟩
def f__law_between : Fn := ⟨"_law_between", ["one", "other", "at", "many"], ["one", "other", "at", "many", "top"],
    (.cons (.set (.nm 4) (.op .add (.op .mul (.op .mul (.idx (.v 0) (.k (.int 0))) (.idx (.v 1) (.k (.int 1)))) (.op .sub (.v 3) (.v 2))) (.op .mul (.op .mul (.idx (.v 1) (.k (.int 0))) (.idx (.v 0) (.k (.int 1)))) (.v 2))))
    (.cons (.ret (.call 21 (.cons (.v 4) (.cons (.op .mul (.op .mul (.idx (.v 0) (.k (.int 1))) (.idx (.v 1) (.k (.int 1)))) (.v 3)) .nil)) [] .nil))
    .nil))⟩
def f__law_row : Fn := ⟨"_law_row", ["constants", "many"], ["constants", "many", "first", "last", "row", "place", "number", "at"],
    (.cons (.ifs (.cmp .eq (.v 0) (.tup .nil))
    (.cons (.ret (.comp [("at", 7)] (.tup (.cons (.v 7) (.cons (.k (.int 1)) .nil))) (.nm 7) (.rng1 (.v 1)) .none))
    .nil)
    .nil)
    (.cons (.set (.tup [2, 3, 4]) (.tup (.cons (.idx (.v 0) (.k (.int 0))) (.cons (.idx (.v 0) (.neg (.k (.int 1)))) (.cons (.lst .nil) .nil)))))
    (.cons (.ex (.meth .extend (.v 4) (.cons (.comp [("at", 7)] (.tup (.cons (.op .sub (.idx (.v 2) (.k (.int 0))) (.op .mul (.op .sub (.v 1) (.v 7)) (.idx (.v 2) (.k (.int 1))))) (.cons (.idx (.v 2) (.k (.int 1))) .nil))) (.nm 7) (.rng1 (.v 1)) .none) .nil)))
    (.cons (.for (.tup [5, 6]) (.enm (.v 0))
    (.cons (.ex (.meth .append (.v 4) (.cons (.v 6) .nil)))
    (.cons (.ifs (.cmp .lt (.op .add (.v 5) (.k (.int 1))) (.bi .len (.cons (.v 0) .nil)))
    (.cons (.ex (.meth .extend (.v 4) (.cons (.comp [("at", 7)] (.call 25 (.cons (.v 6) (.cons (.idx (.v 0) (.op .add (.v 5) (.k (.int 1)))) (.cons (.op .add (.v 7) (.k (.int 1))) (.cons (.op .add (.v 1) (.k (.int 1))) .nil)))) [] .nil) (.nm 7) (.rng1 (.v 1)) .none) .nil)))
    .nil)
    .nil)
    .nil)))
    (.cons (.ret (.op .add (.v 4) (.comp [("at", 7)] (.tup (.cons (.op .add (.idx (.v 3) (.k (.int 0))) (.op .mul (.op .add (.v 7) (.k (.int 1))) (.idx (.v 3) (.k (.int 1))))) (.cons (.idx (.v 3) (.k (.int 1))) .nil))) (.nm 7) (.rng1 (.v 1)) .none)))
    .nil)))))⟩
def f__law_relation : Fn := ⟨"_law_relation", ["one", "two"], ["one", "two", "truths", "b", "e", "low", "high"],
    (.cons (.set (.tup [3, 4, 5, 6]) (.tup (.cons (.idx (.v 0) (.k (.int 0))) (.cons (.idx (.v 0) (.k (.int 1))) (.cons (.idx (.v 1) (.k (.int 0))) (.cons (.idx (.v 1) (.k (.int 1))) .nil))))))
    (.cons (.set (.nm 2) (.lst (.cons (.call 20 (.cons (.v 4) (.cons (.v 5) .nil)) [] .nil) (.cons (.cmp .eq (.v 4) (.v 5)) (.cons (.bool true (.cons (.call 20 (.cons (.v 3) (.cons (.v 5) .nil)) [] .nil) (.cons (.call 20 (.cons (.v 5) (.cons (.v 4) .nil)) [] .nil) (.cons (.call 20 (.cons (.v 4) (.cons (.v 6) .nil)) [] .nil) .nil)))) (.cons (.bool true (.cons (.cmp .eq (.v 3) (.v 5)) (.cons (.call 20 (.cons (.v 4) (.cons (.v 6) .nil)) [] .nil) .nil))) .nil))))))
    (.cons (.set (.nm 2) (.op .add (.v 2) (.lst (.cons (.bool true (.cons (.call 20 (.cons (.v 5) (.cons (.v 3) .nil)) [] .nil) (.cons (.call 20 (.cons (.v 4) (.cons (.v 6) .nil)) [] .nil) .nil))) (.cons (.bool true (.cons (.call 20 (.cons (.v 5) (.cons (.v 3) .nil)) [] .nil) (.cons (.cmp .eq (.v 4) (.v 6)) .nil))) (.cons (.bool true (.cons (.cmp .eq (.v 3) (.v 5)) (.cons (.cmp .eq (.v 4) (.v 6)) .nil))) .nil))))))
    (.cons (.set (.nm 2) (.op .add (.v 2) (.lst (.cons (.bool true (.cons (.call 20 (.cons (.v 3) (.cons (.v 5) .nil)) [] .nil) (.cons (.cmp .eq (.v 4) (.v 6)) .nil))) (.cons (.bool true (.cons (.call 20 (.cons (.v 3) (.cons (.v 5) .nil)) [] .nil) (.cons (.call 20 (.cons (.v 6) (.cons (.v 4) .nil)) [] .nil) .nil))) (.cons (.bool true (.cons (.cmp .eq (.v 3) (.v 5)) (.cons (.call 20 (.cons (.v 6) (.cons (.v 4) .nil)) [] .nil) .nil))) .nil))))))
    (.cons (.set (.nm 2) (.op .add (.v 2) (.lst (.cons (.bool true (.cons (.call 20 (.cons (.v 5) (.cons (.v 3) .nil)) [] .nil) (.cons (.call 20 (.cons (.v 3) (.cons (.v 6) .nil)) [] .nil) (.cons (.call 20 (.cons (.v 6) (.cons (.v 4) .nil)) [] .nil) .nil)))) (.cons (.cmp .eq (.v 3) (.v 6)) (.cons (.call 20 (.cons (.v 6) (.cons (.v 3) .nil)) [] .nil) .nil))))))
    (.cons (.ret (.meth .index (.v 2) (.cons (.k (.bl true)) .nil)))
    .nil))))))⟩
def f__law_lot : Fn := ⟨"_law_lot", ["source"], ["source", "share", "relation"],
    (.cons (.set (.nm 1) (.op .add (.k (.int 1)) (.call 17 (.cons (.v 0) (.cons (.k (.int 4)) .nil)) [] .nil)))
    (.cons (.ret (.bi .tuple (.cons (.comp [("relation", 2)] (.v 2) (.nm 2) (.rng1 (.k (.int 13))) (.some (.cmp .lt (.call 17 (.cons (.v 0) (.cons (.k (.int 6)) .nil)) [] .nil) (.v 1)))) .nil)))
    .nil))⟩
def f__law_stretch : Fn := ⟨"_law_stretch", ["source", "row"], ["source", "row", "two"],
    (.cons (.set (.nm 2) (.call 22 (.cons (.lst (.cons (.call 18 (.cons (.v 0) (.cons (.v 1) .nil)) [] .nil) (.cons (.call 18 (.cons (.v 0) (.cons (.v 1) .nil)) [] .nil) .nil))) .nil) [] .nil))
    (.cons (.ret (.ife (.cmp .eq (.bi .len (.cons (.v 2) .nil)) (.k (.int 2))) (.tup (.cons (.idx (.v 2) (.k (.int 0))) (.cons (.idx (.v 2) (.k (.int 1))) .nil))) (.tup (.cons (.idx (.v 2) (.k (.int 0))) (.cons (.tup (.cons (.op .add (.idx (.idx (.v 2) (.k (.int 0))) (.k (.int 0))) (.idx (.idx (.v 2) (.k (.int 0))) (.k (.int 1)))) (.cons (.idx (.idx (.v 2) (.k (.int 0))) (.k (.int 1))) .nil))) .nil)))))
    .nil))⟩
def f__law_odd_lot : Fn := ⟨"_law_odd_lot", ["source"], ["source"],
    (.cons (.ret (.call 18 (.cons (.v 0) (.cons (.lst (.cons (.k .non) (.cons (.k (.int 3)) (.cons (.k (.str ("lot" : Str))) (.cons (.lst (.cons (.k (.int 0)) (.cons (.k (.int 1)) .nil))) (.cons (.tup (.cons (.k (.int 1)) (.cons (.k (.int 0)) .nil))) (.cons (.tup (.cons (.k (.int 2)) (.cons (.k (.int 2)) .nil))) (.cons (.tup (.cons (.k (.int 13)) .nil)) (.cons (.tup (.cons (.neg (.k (.int 1))) (.cons (.k (.int 3)) .nil))) (.cons (.tup (.cons (.k (.bl true)) .nil)) (.cons (.tup (.cons (.k (.int 0)) (.cons (.k (.int 1)) (.cons (.k (.bl true)) .nil)))) (.cons (.tup (.cons (.k .non) .nil)) (.cons (.tup (.cons (.tup (.cons (.k (.int 0)) .nil)) .nil)) (.cons (.tup (.cons (.k (.int 0)) (.cons (.k (.int 12)) (.cons (.k (.int 13)) .nil)))) (.cons (.tup (.cons (.op .pow (.k (.int 10)) (.k (.int 20))) .nil)) .nil))))))))))))))) .nil)) [] .nil))
    .nil)⟩
def f__law_turned_lot : Fn := ⟨"_law_turned_lot", ["lot"], ["lot", "relation"],
    (.cons (.ret (.bi .tuple (.cons (.comp [("relation", 1)] (.op .sub (.k (.int 12)) (.v 1)) (.nm 1) (.sq (.rev (.v 0))) .none) .nil)))
    .nil)⟩
end OC

namespace OC
open PySem PySem.Spec PyProof.Rows L2
/-! ### weakest preconditions of the meaning -/
section
variable {α β : Type} {G : GH} {ex : Str → Option D → GH → Prop}
theorem p_bind {m : M α} {f : α → M β} {ok : β → GH → Prop} : Post (m >>= f) G ok ex ↔ Post m G (fun a G1 => Post (f a) G1 ok ex) ex := by
  show Post (mbind m f) G ok ex ↔ _
  unfold Post mbind
  cases m G <;> rfl
theorem p_mret {a : α} {ok : α → GH → Prop} : Post (mret a) G ok ex ↔ ok a G := Iff.rfl
theorem p_mbad {ok : α → GH → Prop} : Post (mbad : M α) G ok ex ↔ False := Iff.rfl
theorem p_ite {c : Prop} [Decidable c] {m m' : M α} {ok : α → GH → Prop} : Post (if c then m else m') G ok ex ↔ (if c then Post m G ok ex else Post m' G ok ex) := by
  split <;> rfl
theorem p_within {m : M D} {σ : Env'} {f : D → M Fl} {ok : Fl → GH → Prop} : Post (within m σ f) G ok ex ↔ Post m G (fun d G1 => Post (f d) G1 ok ex) (fun c v G1 => ok (.xn c v σ) G1) := by
  unfold Post within
  cases m G <;> rfl
theorem p_withinI {m : M (List D × Guard)} {σ : Env'} {f : List D × Guard → M Fl} {ok : Fl → GH → Prop} : Post (withinI m σ f) G ok ex ↔ Post m G (fun d G1 => Post (f d) G1 ok ex) (fun c v G1 => ok (.xn c v σ) G1) := by
  unfold Post withinI
  cases m G <;> rfl
theorem p_thenS {m : M Fl} {f : Env' → M Fl} {ok : Fl → GH → Prop} : Post (thenS m f) G ok ex ↔ Post m G (fun fl G1 => match fl with | .nx σ => Post (f σ) G1 ok ex | r => ok r G1) noex := by
  unfold Post thenS
  cases m G with
  | ok fl G1 => cases fl <;> rfl
  | exn c v G1 => rfl
  | bad => rfl
theorem p_try {c : Calls} {known : List Str} {b : ISs} {hs : IHs} {σ : Env'} {ok : Fl → GH → Prop} : Post (denS c (.try known b hs) σ) G ok ex ↔ Post (denSs c b σ) G (fun fl G1 => match fl with
    | .xn cl f σ1 => if known.contains cl then Post (denH c hs cl f σ1) G1 ok ex else False
    | r => ok r G1) ex := by
  show Post (fun G => (match denSs c b σ G with
    | .ok (.xn cl f σ1) G1 => if known.contains cl then denH c hs cl f σ1 G1 else .bad
    | r => r)) G ok ex ↔ _
  unfold Post
  cases e : denSs c b σ G with
  | ok fl G1 =>
    cases fl with
    | xn cl f σ1 =>
      by_cases hk : known.contains cl = true
      · simp only [e, hk, if_true]
      · simp only [e, hk, if_false]; simp
    | _ => simp only [e]
  | exn c v G1 => simp only [e]
  | bad => simp only [e]
theorem p_noXn {m : M Fl} {ok : Fl → GH → Prop} : Post (noXn m) G ok ex ↔ Post m G (fun fl G1 => match fl with | .xn _ _ _ => False | r => ok r G1) ex := by
  unfold Post noXn
  cases m G with
  | ok fl G1 => cases fl <;> rfl
  | exn c v G1 => rfl
  | bad => rfl
theorem callN_eq {P : Prg} {n i : Nat} {fn : Fn} {ds : List D} (hi : P[i]? = some fn) (hl : ds.length = fn.params.length) : callN P (n + 1) i ds G = (match denSs (callN P n) fn.body (startD fn.N.length ds) G with
      | .ok (.nx _) G1 => R.ok D.non G1
      | .ok (.rt d) G1 => .ok d G1
      | .ok (.xn c f _) G1 => .exn c f G1
      | _ => .bad) := by
  show (match P[i]? with
    | none => R.bad
    | some fn => if ds.length = fn.params.length then (match denSs (callN P n) fn.body (startD fn.N.length ds) G with
      | .ok (.nx _) G1 => R.ok D.non G1
      | .ok (.rt d) G1 => .ok d G1
      | .ok (.xn c f _) G1 => .exn c f G1
      | _ => .bad) else .bad) = _
  rw [hi]
  simp only [hl, if_true]
theorem p_call {P : Prg} {n i : Nat} {fn : Fn} {ds : List D} {ok : D → GH → Prop} (hi : P[i]? = some fn) (hl : ds.length = fn.params.length) : Post (callN P (n + 1) i ds) G ok ex ↔
    Post (denSs (callN P n) fn.body (startD fn.N.length ds)) G (fun fl G1 => match fl with | .nx _ => ok .non G1 | .rt d => ok d G1 | .xn c f _ => ex c f G1 | _ => False) noex := by
  unfold Post
  rw [callN_eq hi hl]
  cases denSs (callN P n) fn.body (startD fn.N.length ds) G with
  | ok fl G1 => cases fl <;> rfl
  | exn c v G1 => rfl
  | bad => rfl
theorem p_v {c : Calls} {i : Nat} {σ : Env'} {ok : D → GH → Prop} : Post (den c (.v i) σ) G ok ex ↔ (match σ[i]? with | some (some d) => ok d G | _ => False) := by
  show Post (fun G => (match σ[i]? with
    | some (some d) => .ok d G
    | _ => .bad)) G ok ex ↔ _
  unfold Post
  cases σ[i]? with
  | none => rfl
  | some o => cases o <;> rfl
theorem p_ok {a : α} {G' : GH} {ok : α → GH → Prop} : Post (fun _ => R.ok a G') G ok ex ↔ ok a G' := Iff.rfl
theorem p_okG {a : α} {ok : α → GH → Prop} : Post (fun G => R.ok a G) G ok ex ↔ ok a G := Iff.rfl
theorem p_getS_tup {xs : List D} {ok : List D → GH → Prop} : Post (getS (.tup xs)) G ok ex ↔ ok xs G := Iff.rfl
theorem p_getS_frz {xs : List D} {ok : List D → GH → Prop} : Post (getS (.frz xs)) G ok ex ↔ ok xs G := Iff.rfl
theorem p_getS_loc {i : Nat} {xs : List D} {ok : List D → GH → Prop} (h : G[i]? = some (.lst xs)) : Post (getS (.loc i)) G ok ex ↔ ok xs G := by
  show Post (fun G => (match G[i]? with | some (.lst xs) => .ok xs G | none => .bad)) G ok ex ↔ _
  unfold Post; simp only [h]
theorem p_getL_frz {xs : List D} {ok : List D → GH → Prop} : Post (getL (.frz xs)) G ok ex ↔ ok xs G := Iff.rfl
theorem p_getL_loc {i : Nat} {xs : List D} {ok : List D → GH → Prop} (h : G[i]? = some (.lst xs)) : Post (getL (.loc i)) G ok ex ↔ ok xs G := by
  show Post (fun G => (match G[i]? with | some (.lst xs) => .ok xs G | none => .bad)) G ok ex ↔ _
  unfold Post; simp only [h]
theorem p_newL {xs : List D} {ok : D → GH → Prop} : Post (newL xs) G ok ex ↔ xs.length ≤ sizeLine ∧ ok (.loc G.length) (G ++ [.lst xs]) := by
  unfold Post newL
  by_cases h : xs.length ≤ sizeLine
  · simp only [h, if_true, true_and]
  · simp only [h, if_false, false_and]
theorem p_mkT {xs : List D} {ok : D → GH → Prop} : Post (mkT xs) G ok ex ↔ xs.length ≤ sizeLine ∧ ok (.tup xs) G := by
  unfold Post mkT
  by_cases h : xs.length ≤ sizeLine
  · simp only [h, if_true, true_and]; rfl
  · simp only [h, if_false, false_and]; rfl
theorem p_atD {xs : List D} {i : Int} {ok : D → GH → Prop} : Post (atD xs i) G ok ex ↔ (match atI xs i with | some d => ok d G | none => False) := by
  unfold atD
  cases atI xs i <;> rfl
theorem p_isin {a : D} {ts : List Ty} {ok : D → GH → Prop} : Post (isinD a ts) G ok ex ↔ (match isTys G a ts with | some b => ok (.bl b) G | none => False) := by
  unfold Post isinD
  cases isTys G a ts <;> rfl
end
/-- post, kept below -/
theorem Post.up {α : Type} {m : M α} {G : GH} {ok ok' : α → GH → Prop} {ex ex' : Str → Option D → GH → Prop} (h : Post m G ok ex) (h1 : ∀ a G1, ok a G1 → ok' a G1) (h2 : ∀ c f G1, ex c f G1 → ex' c f G1) : Post m G ok' ex' := h.mono h1 h2
theorem Post.ok {α : Type} {m : M α} {G : GH} {ok ok' : α → GH → Prop} {ex' : Str → Option D → GH → Prop} (h : Post m G ok noex) (h1 : ∀ a G1, ok a G1 → ok' a G1) : Post m G ok' ex' := h.mono h1 fun _ _ _ z => z.elim
/-- the unfolding of the meaning -/
theorem p_ret {c : Calls} {e : IE} {σ : Env'} {G : GH} {ok : Fl → GH → Prop} {ex : Str → Option D → GH → Prop} : Post (denS c (.ret e) σ) G ok ex ↔ Post (den c e σ) G (fun d G1 => ok (.rt d) G1) (fun c v G1 => ok (.xn c v σ) G1) := by
  show Post (within (den c e σ) σ fun d => mret (.rt d)) G ok ex ↔ _
  rw [p_within]; rfl
theorem p_consS {c : Calls} {s : IS} {ss : ISs} {σ : Env'} {G : GH} {ok : Fl → GH → Prop} {ex : Str → Option D → GH → Prop} : Post (denSs c (.cons s ss) σ) G ok ex ↔ Post (denS c s σ) G (fun fl G1 => match fl with | .nx σ1 => Post (denSs c ss σ1) G1 ok ex | r => ok r G1) noex := p_thenS
section
variable {c : Calls} {σ : Env'} {G : GH} {ok : D → GH → Prop} {okF : Fl → GH → Prop} {okL : List D → GH → Prop} {okI : List D × Guard → GH → Prop} {okO : Option Int → GH → Prop} {ex : Str → Option D → GH → Prop}
theorem p_k {d : D} : Post (den c (.k d) σ) G ok ex ↔ ok d G := Iff.rfl
theorem p_gl {x : Str} {d : D} : Post (den c (.gl x d) σ) G ok ex ↔ ok d G := Iff.rfl
theorem p_tup {es : IEs} : Post (den c (.tup es) σ) G ok ex ↔ Post (denEs c es σ) G (fun xs G1 => xs.length ≤ sizeLine ∧ ok (.tup xs) G1) ex := by
  show Post (denEs c es σ >>= mkT) G ok ex ↔ _
  rw [p_bind]; simp only [p_mkT]
theorem p_lst {es : IEs} : Post (den c (.lst es) σ) G ok ex ↔ Post (denEs c es σ) G (fun xs G1 => xs.length ≤ sizeLine ∧ ok (.loc G1.length) (G1 ++ [.lst xs])) ex := by
  show Post (denEs c es σ >>= newL) G ok ex ↔ _
  rw [p_bind]; simp only [p_newL]
theorem p_op {o : Op2} {a b : IE} : Post (den c (.op o a b) σ) G ok ex ↔ Post (den c a σ) G (fun x G1 => Post (den c b σ) G1 (fun y G2 => Post (opD o x y) G2 ok ex) ex) ex := by
  show Post (den c a σ >>= fun x => den c b σ >>= fun y => opD o x y) G ok ex ↔ _
  simp only [p_bind]
theorem p_cmp {o : Cmp} {a b : IE} : Post (den c (.cmp o a b) σ) G ok ex ↔ Post (den c a σ) G (fun x G1 => Post (den c b σ) G1 (fun y G2 => Post (cmpD o x y) G2 ok ex) ex) ex := by
  show Post (den c a σ >>= fun x => den c b σ >>= fun y => cmpD o x y) G ok ex ↔ _
  simp only [p_bind]
theorem p_neg {a : IE} : Post (den c (.neg a) σ) G ok ex ↔ Post (den c a σ) G (fun x G1 => match x with | .int i => ok (.int (-i)) G1 | _ => False) ex := by
  show Post (den c a σ >>= fun x => (match x with | .int i => mret (.int (-i)) | _ => mbad)) G ok ex ↔ _
  rw [p_bind]
  unfold Post
  cases den c a σ G with
  | ok x G1 => cases x <;> rfl
  | _ => rfl
theorem p_not {a : IE} : Post (den c (.not a) σ) G ok ex ↔ Post (den c a σ) G (fun x G1 => match x with | .bl i => ok (.bl (!i)) G1 | _ => False) ex := by
  show Post (den c a σ >>= fun x => (match x with | .bl i => mret (.bl (!i)) | _ => mbad)) G ok ex ↔ _
  rw [p_bind]
  unfold Post
  cases den c a σ G with
  | ok x G1 => cases x <;> rfl
  | _ => rfl
theorem p_bool1 {w : Bool} {e : IE} : Post (den c (.bool w (.cons e .nil)) σ) G ok ex ↔ Post (den c e σ) G ok ex := Iff.rfl
theorem p_bool2 {w : Bool} {e e2 : IE} {es : IEs} : Post (den c (.bool w (.cons e (.cons e2 es))) σ) G ok ex ↔ Post (den c e σ) G (fun x G1 => match x with | .bl b => if b = w then Post (den c (.bool w (.cons e2 es)) σ) G1 ok ex else ok (.bl b) G1 | _ => False) ex := by
  show Post (den c e σ >>= fun x => boolTurn w x (denB c w (.cons e2 es) σ)) G ok ex ↔ _
  rw [p_bind]
  unfold Post
  cases den c e σ G with
  | ok x G1 =>
    cases x with
    | bl b =>
      cases b <;> cases w <;> rfl
    | _ => rfl
  | _ => rfl
theorem p_ife {t a b : IE} : Post (den c (.ife t a b) σ) G ok ex ↔ Post (den c t σ) G (fun x G1 => match x with | .bl i => if i = true then Post (den c a σ) G1 ok ex else Post (den c b σ) G1 ok ex | _ => False) ex := by
  show Post (den c t σ >>= fun x => (match x with | .bl true => den c a σ | .bl false => den c b σ | _ => mbad)) G ok ex ↔ _
  rw [p_bind]
  unfold Post
  cases den c t σ G with
  | ok x G1 =>
    cases x with
    | bl b => cases b <;> rfl
    | _ => rfl
  | _ => rfl
theorem p_idx {a b : IE} : Post (den c (.idx a b) σ) G ok ex ↔ Post (den c a σ) G (fun x G1 => Post (den c b σ) G1 (fun y G2 => match y with | .int i => Post (getS x) G2 (fun xs G3 => match atI xs i with | some d => ok d G3 | none => False) ex | _ => False) ex) ex := by
  show Post (den c a σ >>= fun x => den c b σ >>= fun y => idxD x y) G ok ex ↔ _
  simp only [p_bind]
  have key : ∀ (x y : D) (G2 : GH), Post (idxD x y) G2 ok ex ↔ (match y with | .int i => Post (getS x) G2 (fun xs G3 => match atI xs i with | some d => ok d G3 | none => False) ex | _ => False) := by
    intro x y G2
    cases y with
    | int i => show Post (getS x >>= fun xs => atD xs i) G2 ok ex ↔ _; rw [p_bind]; simp only [p_atD]
    | _ => rfl
  simp only [key]
theorem p_kidx {x : Str} {tbl : List (D × D)} {b : IE} : Post (den c (.kidx x tbl b) σ) G ok ex ↔ Post (den c b σ) G (fun y G2 => match tbl.find? (fun p => decide (p.1 = y)) with | some p => ok p.2 G2 | none => False) ex := by
  show Post (den c b σ >>= fun y => kidxD tbl y) G ok ex ↔ _
  rw [p_bind]
  have key : ∀ (y : D) (G2 : GH), Post (kidxD tbl y) G2 ok ex ↔ (match tbl.find? (fun p => decide (p.1 = y)) with | some p => ok p.2 G2 | none => False) := by
    intro y G2; unfold kidxD; cases tbl.find? (fun p => decide (p.1 = y)) <;> rfl
  simp only [key]
theorem p_slice {a : IE} {lo hi : IO} : Post (den c (.slice a lo hi) σ) G ok ex ↔ Post (den c a σ) G (fun x G1 => Post (denO c lo σ) G1 (fun l G2 => Post (denO c hi σ) G2 (fun h G3 => Post (sliceD x l h) G3 ok ex) ex) ex) ex := by
  show Post (den c a σ >>= fun x => denO c lo σ >>= fun l => denO c hi σ >>= fun h => sliceD x l h) G ok ex ↔ _
  simp only [p_bind]
theorem p_onone : Post (denO c .none σ) G okO ex ↔ okO none G := Iff.rfl
theorem p_osome {e : IE} : Post (denO c (.some e) σ) G okO ex ↔ Post (den c e σ) G (fun x G1 => match x with | .int i => okO (some i) G1 | _ => False) ex := by
  show Post (den c e σ >>= fun x => (match x with | .int i => mret (some i) | _ => mbad)) G okO ex ↔ _
  rw [p_bind]
  unfold Post
  cases den c e σ G with
  | ok x G1 => cases x <;> rfl
  | _ => rfl
theorem p_rev {a : IE} : Post (den c (.rev a) σ) G ok ex ↔ Post (den c a σ) G (fun x G1 => match x with | .tup xs => ok (.tup xs.reverse) G1 | _ => False) ex := by
  show Post (den c a σ >>= revD) G ok ex ↔ _
  rw [p_bind]
  unfold Post
  cases den c a σ G with
  | ok x G1 => cases x <;> rfl
  | _ => rfl
theorem p_tupR {a : IE} : Post (den c (.tupR a) σ) G ok ex ↔ Post (den c a σ) G (fun x G1 => match x with | .int j => (j ≤ 16777216 ∧ 0 ≤ j) ∧ ok (.tup (rngD 0 j.toNat)) G1 | _ => False) ex := by
  show Post (den c a σ >>= fun x => (match x with | .int j => if j ≤ 16777216 ∧ 0 ≤ j then mret (.tup (rngD 0 j.toNat)) else mbad | _ => mbad)) G ok ex ↔ _
  rw [p_bind]
  have key : ∀ (x : D) (G2 : GH), Post (match x with | .int j => if j ≤ 16777216 ∧ 0 ≤ j then mret (D.tup (rngD 0 j.toNat)) else mbad | _ => mbad) G2 ok ex ↔ (match x with | .int j => (j ≤ 16777216 ∧ 0 ≤ j) ∧ ok (.tup (rngD 0 j.toNat)) G2 | _ => False) := by
    intro x G2
    cases x with
    | int j =>
      simp only
      by_cases h : j ≤ 16777216 ∧ 0 ≤ j
      · simp only [h, and_self, if_true, true_and, p_mret]
      · simp only [h, if_false, false_and, p_mbad]
    | _ => rfl
  simp only [key]
theorem p_callE0 {f : Nat} {es ks : IEs} : Post (den c (.call f es [] ks) σ) G ok ex ↔ Post (denEs c es σ) G (fun ds G1 => Post (c f ds) G1 ok ex) ex := by
  show Post (denEs c es σ >>= fun ds => c f ds) G ok ex ↔ _
  rw [p_bind]
theorem p_callEK {f : Nat} {es ks : IEs} {k0 : Nat} {kr : List Nat} : Post (den c (.call f es (k0 :: kr) ks) σ) G ok ex ↔ Post (denEs c es σ) G (fun ds G1 => Post (denEs c ks σ) G1 (fun us G2 => match reorder (k0 :: kr) ds us with | some zs => Post (c f zs) G2 ok ex | none => False) ex) ex := by
  show Post (denEs c es σ >>= fun ds => denEs c ks σ >>= fun us => (match reorder (k0 :: kr) ds us with
      | some zs => c f zs
      | none => mbad)) G ok ex ↔ _
  simp only [p_bind]
  have key : ∀ (ds us : List D) (G2 : GH), Post (match reorder (k0 :: kr) ds us with | some zs => c f zs | none => mbad) G2 ok ex ↔ (match reorder (k0 :: kr) ds us with | some zs => Post (c f zs) G2 ok ex | none => False) := by
    intro ds us G2; cases reorder (k0 :: kr) ds us <;> rfl
  simp only [key]
theorem p_bi {b : Bi} {es : IEs} : Post (den c (.bi b es) σ) G ok ex ↔ Post (denEs c es σ) G (fun ds G1 => Post (biD b ds) G1 ok ex) ex := by
  show Post (denEs c es σ >>= biD b) G ok ex ↔ _
  rw [p_bind]
theorem p_isinE {a : IE} {ts : List Ty} : Post (den c (.isin a ts) σ) G ok ex ↔ Post (den c a σ) G (fun x G1 => match isTys G1 x ts with | some b => ok (.bl b) G1 | none => False) ex := by
  show Post (den c a σ >>= fun x => isinD x ts) G ok ex ↔ _
  rw [p_bind]; simp only [p_isin]
theorem p_meth {m : Mt} {o : IE} {es : IEs} : Post (den c (.meth m o es) σ) G ok ex ↔ Post (den c o σ) G (fun x G1 => match x with | .loc i => Post (denEs c es σ) G1 (fun ds G2 => Post (methD m (.loc i) ds) G2 ok ex) ex | _ => False) ex := by
  show Post (den c o σ >>= fun x => (match x with | .loc i => denEs c es σ >>= fun ds => methD m (.loc i) ds | _ => mbad)) G ok ex ↔ _
  rw [p_bind]
  have key : ∀ (x : D) (G2 : GH), Post (match x with | .loc i => denEs c es σ >>= fun ds => methD m (.loc i) ds | _ => mbad) G2 ok ex ↔ (match x with | .loc i => Post (denEs c es σ) G2 (fun ds G2 => Post (methD m (.loc i) ds) G2 ok ex) ex | _ => False) := by
    intro x G2
    cases x with
    | loc i => simp only [p_bind]
    | _ => rfl
  simp only [key]
theorem p_nil : Post (denEs c .nil σ) G okL ex ↔ okL [] G := Iff.rfl
theorem p_cons {e : IE} {es : IEs} : Post (denEs c (.cons e es) σ) G okL ex ↔ Post (den c e σ) G (fun x G1 => Post (denEs c es σ) G1 (fun xs G2 => okL (x :: xs) G2) ex) ex := by
  show Post (den c e σ >>= fun x => denEs c es σ >>= fun xs => mret (x :: xs)) G okL ex ↔ _
  simp only [p_bind, p_mret]
theorem p_congr {α : Type} {m : M α} {ok ok' : α → GH → Prop} (h : ∀ a G1, ok a G1 ↔ ok' a G1) : Post m G ok ex ↔ Post m G ok' ex := by
  unfold Post
  cases m G with
  | ok a G1 => exact h a G1
  | _ => rfl
theorem p_comp {own : List (Str × Nat)} {elt : IE} {t : IT} {it : II} {cond : IO} : Post (den c (.comp own elt t it cond) σ) G ok ex ↔ Post (denI c it σ) G (fun src G1 => Post (compG src.2 G1.length (turnC c elt t cond (wipeD σ (own.map (·.2)))) src.1) (G1 ++ [.lst []]) (fun _ G2 => ok (.loc G1.length) G2) ex) ex := by
  rw [den_comp, p_bind]
  have hz : ([] : List D).length ≤ sizeLine := Nat.zero_le _
  have key : ∀ (src : List D × Guard) (G1 : GH), Post (newL [] >>= fun d => (match d with
    | .loc l => compG src.2 l (turnC c elt t cond (wipeD σ (own.map (·.2)))) src.1 >>= fun _ => mret (OC.D.loc l)
    | _ => mbad)) G1 ok ex ↔ Post (compG src.2 G1.length (turnC c elt t cond (wipeD σ (own.map (·.2)))) src.1) (G1 ++ [.lst []]) (fun _ G2 => ok (.loc G1.length) G2) ex := by
    intro src G1
    rw [p_bind, p_newL]
    simp only [hz, true_and, p_bind, p_mret]
  exact p_congr key
/-! sources -/
theorem p_sq {e : IE} : Post (denI c (.sq e) σ) G okI ex ↔ Post (den c e σ) G (fun x G1 => Post (seqI x) G1 okI ex) ex := by
  show Post (den c e σ >>= seqI) G okI ex ↔ _
  rw [p_bind]
theorem p_seq_tup {xs : List D} : Post (seqI (.tup xs)) G okI ex ↔ okI (xs, []) G := Iff.rfl
theorem p_seq_frz {xs : List D} : Post (seqI (.frz xs)) G okI ex ↔ okI (xs, []) G := Iff.rfl
theorem p_seq_loc {i : Nat} {xs : List D} (h : G[i]? = some (.lst xs)) : Post (seqI (.loc i)) G okI ex ↔ okI (xs, [(i, xs)]) G := by
  show Post (fun G => (match G[i]? with | some (.lst xs) => .ok (xs, [(i, xs)]) G | none => .bad)) G okI ex ↔ _
  unfold Post; simp only [h]
theorem p_rng1 {a : IE} : Post (denI c (.rng1 a) σ) G okI ex ↔ Post (den c a σ) G (fun x G1 => match x with | .int j => small j ∧ okI (rngD 0 j.toNat, []) G1 | _ => False) ex := by
  show Post (den c a σ >>= fun x => (match x with | .int j => if small j then mret (rngD 0 j.toNat, []) else mbad | _ => mbad)) G okI ex ↔ _
  rw [p_bind]
  have key : ∀ (x : D) (G2 : GH), Post (match x with | .int j => if small j then mret (rngD 0 j.toNat, ([] : Guard)) else mbad | _ => mbad) G2 okI ex ↔ (match x with | .int j => small j ∧ okI (rngD 0 j.toNat, []) G2 | _ => False) := by
    intro x G2
    cases x with
    | int j =>
      simp only
      by_cases h : small j
      · simp only [h, if_true, true_and, p_mret]
      · simp only [h, if_false, false_and, p_mbad]
    | _ => rfl
  simp only [key]
theorem p_enm {e : IE} : Post (denI c (.enm e) σ) G okI ex ↔ Post (den c e σ) G (fun x G1 => Post (seqI x) G1 (fun p G2 => okI (enmD 0 p.1, p.2) G2) ex) ex := by
  show Post ((den c e σ >>= seqI) >>= fun p => mret (enmD 0 p.1, p.2)) G okI ex ↔ _
  simp only [p_bind, p_mret]
theorem p_zip {a b : IE} : Post (denI c (.zip a b) σ) G okI ex ↔ Post (den c a σ) G (fun x G1 => Post (den c b σ) G1 (fun y G2 => Post (seqI x) G2 (fun p G3 => Post (seqI y) G3 (fun q G4 => isTup x = isTup y ∧ okI (zipD p.1 q.1, p.2 ++ q.2) G4) ex) ex) ex) ex := by
  show Post (den c a σ >>= fun x => den c b σ >>= fun y => seqI x >>= fun p => seqI y >>= fun q => if isTup x = isTup y then mret (zipD p.1 q.1, p.2 ++ q.2) else mbad) G okI ex ↔ _
  have key : ∀ (x y : D) (p q : List D × Guard) (G2 : GH), Post (if isTup x = isTup y then mret (zipD p.1 q.1, p.2 ++ q.2) else mbad) G2 okI ex ↔ (isTup x = isTup y ∧ okI (zipD p.1 q.1, p.2 ++ q.2) G2) := by
    intro x y p q G2
    by_cases h : isTup x = isTup y
    · simp only [h, if_true, true_and, p_mret]
    · simp only [h, if_false, false_and, p_mbad]
  simp only [p_bind, key]
/-! statements -/
theorem p_set {t : IT} {e : IE} : Post (denS c (.set t e) σ) G okF ex ↔ Post (den c e σ) G (fun d G1 => match assignT t d σ with | some σ1 => okF (.nx σ1) G1 | none => False) (fun x f G1 => okF (.xn x f σ) G1) := by
  show Post (within (den c e σ) σ fun d => (match assignT t d σ with | some σ1 => mret (.nx σ1) | none => mbad)) G okF ex ↔ _
  rw [p_within]
  have key : ∀ (d : D) (G2 : GH), Post (match assignT t d σ with | some σ1 => mret (Fl.nx σ1) | none => mbad) G2 okF ex ↔ (match assignT t d σ with | some σ1 => okF (.nx σ1) G2 | none => False) := by
    intro d G2; cases assignT t d σ <;> rfl
  simp only [key]
theorem p_setI {o i e : IE} : Post (denS c (.setI o i e) σ) G okF ex ↔ Post (den c e σ) G (fun d G1 => Post (den c o σ) G1 (fun x G2 => Post (den c i σ) G2 (fun y G3 => match x, y with
    | .loc l, .int k => (match G3[l]? with
      | some (.lst xs) => (match ixN xs.length k with
        | some j => okF (.nx σ) (G3.set l (.lst (xs.set j d)))
        | none => False)
      | _ => False)
    | _, _ => False) (fun x f G1 => okF (.xn x f σ) G1)) (fun x f G1 => okF (.xn x f σ) G1)) (fun x f G1 => okF (.xn x f σ) G1) := by
  show Post (within (den c e σ) σ fun d => within (den c o σ) σ fun x => within (den c i σ) σ fun y => fun G =>
    (match x, y with
    | .loc l, .int k => (match G[l]? with
      | some (.lst xs) => (match ixN xs.length k with
        | some j => .ok (.nx σ) (G.set l (.lst (xs.set j d)))
        | none => .bad)
      | _ => .bad)
    | _, _ => .bad)) G okF ex ↔ _
  simp only [p_within]
  have key : ∀ (d x y : D) (G3 : GH), Post (fun G => (match x, y with
    | .loc l, .int k => (match G[l]? with
      | some (.lst xs) => (match ixN xs.length k with
        | some j => R.ok (Fl.nx σ) (G.set l (.lst (xs.set j d)))
        | none => .bad)
      | _ => .bad)
    | _, _ => .bad)) G3 okF ex ↔ (match x, y with
    | .loc l, .int k => (match G3[l]? with
      | some (.lst xs) => (match ixN xs.length k with
        | some j => okF (.nx σ) (G3.set l (.lst (xs.set j d)))
        | none => False)
      | _ => False)
    | _, _ => False) := by
    intro d x y G3
    unfold Post
    cases x with
    | loc l =>
      cases y with
      | int k =>
        simp only
        cases e : G3[l]? with
        | none => rfl
        | some g =>
          obtain ⟨xs⟩ := g
          simp only
          cases ixN xs.length k <;> rfl
      | _ => rfl
    | _ => cases y <;> rfl
  simp only [key]
theorem p_ex {e : IE} : Post (denS c (.ex e) σ) G okF ex ↔ Post (den c e σ) G (fun _ G1 => okF (.nx σ) G1) (fun x f G1 => okF (.xn x f σ) G1) := by
  show Post (within (den c e σ) σ fun _ => mret (.nx σ)) G okF ex ↔ _
  rw [p_within]; rfl
theorem p_ifs {t : IE} {a b : ISs} : Post (denS c (.ifs t a b) σ) G okF ex ↔ Post (den c t σ) G (fun x G1 => match x with | .bl i => if i = true then Post (denSs c a σ) G1 okF ex else Post (denSs c b σ) G1 okF ex | _ => False) (fun x f G1 => okF (.xn x f σ) G1) := by
  show Post (within (den c t σ) σ fun x => (match x with | .bl true => denSs c a σ | .bl false => denSs c b σ | _ => mbad)) G okF ex ↔ _
  rw [p_within]
  have key : ∀ (x : D) (G2 : GH), Post (match x with | .bl true => denSs c a σ | .bl false => denSs c b σ | _ => mbad) G2 okF ex ↔ (match x with | .bl i => if i = true then Post (denSs c a σ) G2 okF ex else Post (denSs c b σ) G2 okF ex | _ => False) := by
    intro x G2
    cases x with
    | bl i => cases i <;> rfl
    | _ => rfl
  simp only [key]
theorem p_for {t : IT} {it : II} {b : ISs} : Post (denS c (.for t it b) σ) G okF ex ↔ Post (denI c it σ) G (fun src G1 => Post (loopG src.2 (fun x σ1 => (match assignT t x σ1 with | some σ2 => denSs c b σ2 | none => mbad)) src.1 σ) G1 okF ex) (fun x f G1 => okF (.xn x f σ) G1) := by
  show Post (withinI (denI c it σ) σ fun src => loopG src.2 (fun x σ1 => (match assignT t x σ1 with | some σ2 => denSs c b σ2 | none => mbad)) src.1 σ) G okF ex ↔ _
  rw [p_withinI]
theorem p_raise {x : Str} : Post (denS c (.raiseT x) σ) G okF ex ↔ okF (.xn x none σ) G := Iff.rfl
theorem p_pass : Post (denS c .pass σ) G okF ex ↔ okF (.nx σ) G := Iff.rfl
theorem p_nilS : Post (denSs c .nil σ) G okF ex ↔ okF (.nx σ) G := Iff.rfl
theorem p_nilH {x : Str} {f : Option D} : Post (denH c .nil x f σ) G okF ex ↔ okF (.xn x f σ) G := Iff.rfl
theorem p_consH {x y : Str} {f : Option D} {b : ISs} {hs : IHs} : Post (denH c (.cons y b hs) x f σ) G okF ex ↔ (if y = x then Post (denSs c b σ) G (fun fl G1 => match fl with | .xn _ _ _ => False | r => okF r G1) ex else Post (denH c hs x f σ) G okF ex) := by
  show Post (if y = x then noXn (denSs c b σ) else denH c hs x f σ) G okF ex ↔ _
  by_cases h : y = x
  · simp only [h, if_true, p_noXn]
  · simp only [h, if_false]
/-! values -/
theorem p_add {i j : Int} : Post (opD .add (.int i) (.int j)) G ok ex ↔ ok (.int (i + j)) G := Iff.rfl
theorem p_sub {i j : Int} : Post (opD .sub (.int i) (.int j)) G ok ex ↔ ok (.int (i - j)) G := Iff.rfl
theorem p_iff_and {p : Prop} [Decidable p] {α : Type} {m : M α} {ok : α → GH → Prop} : Post (if p then m else mbad) G ok ex ↔ p ∧ Post m G ok ex := by
  by_cases h : p
  · simp only [h, if_true, true_and]
  · simp only [h, if_false, false_and, p_mbad]
theorem p_mul {i j : Int} : Post (opD .mul (.int i) (.int j)) G ok ex ↔ mulOk i j ∧ ok (.int (i * j)) G := p_iff_and
theorem p_fdiv {i j : Int} : Post (opD .fdiv (.int i) (.int j)) G ok ex ↔ (0 < j ∧ fitsD j) ∧ ok (.int (i / j)) G := p_iff_and
theorem p_mod {i j : Int} : Post (opD .mod (.int i) (.int j)) G ok ex ↔ 0 < j ∧ ok (.int (i % j)) G := p_iff_and
theorem p_pow {i j : Int} : Post (opD .pow (.int i) (.int j)) G ok ex ↔ fitsP i j ∧ ok (.int (i ^ j.toNat)) G := p_iff_and
theorem p_addT {xs ys : List D} : Post (opD .add (.tup xs) (.tup ys)) G ok ex ↔ (xs ++ ys).length ≤ sizeLine ∧ ok (.tup (xs ++ ys)) G := p_mkT
theorem p_addL {i j : Nat} {xs ys : List D} (h1 : G[i]? = some (.lst xs)) (h2 : G[j]? = some (.lst ys)) : Post (opD .add (.loc i) (.loc j)) G ok ex ↔ (xs ++ ys).length ≤ sizeLine ∧ ok (.loc G.length) (G ++ [.lst (xs ++ ys)]) := by
  rw [← p_newL (ex := ex)]
  show Post (fun G => (match G[i]?, G[j]? with
    | some (.lst xs), some (.lst ys) => newL (xs ++ ys) G
    | _, _ => .bad)) G ok ex ↔ _
  unfold Post
  simp only [h1, h2]
theorem p_lt {i j : Int} : Post (cmpD .lt (.int i) (.int j)) G ok ex ↔ ok (.bl (decide (i < j))) G := Iff.rfl
theorem p_le {i j : Int} : Post (cmpD .le (.int i) (.int j)) G ok ex ↔ ok (.bl (decide (i ≤ j))) G := Iff.rfl
theorem p_gt {i j : Int} : Post (cmpD .gt (.int i) (.int j)) G ok ex ↔ ok (.bl (decide (j < i))) G := Iff.rfl
theorem p_ge {i j : Int} : Post (cmpD .ge (.int i) (.int j)) G ok ex ↔ ok (.bl (decide (j ≤ i))) G := Iff.rfl
theorem p_isN {a : D} : Post (cmpD .is a .non) G ok ex ↔ ok (.bl (isNon a)) G := Iff.rfl
theorem p_isnN {a : D} : Post (cmpD .isnot a .non) G ok ex ↔ ok (.bl (!isNon a)) G := Iff.rfl
theorem p_isnB {a b : Bool} : Post (cmpD .isnot (.bl a) (.bl b)) G ok ex ↔ ok (.bl (!decide (a = b))) G := Iff.rfl
theorem p_eqG {a b : D} {p q : PyData} (h1 : rs G 64 a = some p) (h2 : rs G 64 b = some q) : Post (cmpD .eq a b) G ok ex ↔ ok (.bl (PyData.eqv p q)) G := by
  show Post (eqD a b >>= fun c => mret (.bl c)) G ok ex ↔ _
  rw [p_bind]
  unfold Post eqD
  simp only [h1, h2]
  rfl
theorem p_neG {a b : D} {p q : PyData} (h1 : rs G 64 a = some p) (h2 : rs G 64 b = some q) : Post (cmpD .ne a b) G ok ex ↔ ok (.bl (!PyData.eqv p q)) G := by
  show Post (eqD a b >>= fun c => mret (.bl (!c))) G ok ex ↔ _
  rw [p_bind]
  unfold Post eqD
  simp only [h1, h2]
  rfl
theorem p_eqP {a b : D} (h1 : pureD a = true) (h2 : pureD b = true) (h3 : max (dep a) (dep b) ≤ 63) : Post (cmpD .eq a b) G ok ex ↔ ok (.bl (eqv a b)) G := by
  rw [p_eqG (rs_pure 64 a h1 (by omega)) (rs_pure 64 b h2 (by omega)), py_eqv a b h1 h2]
theorem p_neP {a b : D} (h1 : pureD a = true) (h2 : pureD b = true) (h3 : max (dep a) (dep b) ≤ 63) : Post (cmpD .ne a b) G ok ex ↔ ok (.bl (!eqv a b)) G := by
  rw [p_neG (rs_pure 64 a h1 (by omega)) (rs_pure 64 b h2 (by omega)), py_eqv a b h1 h2]
theorem p_eqI {i j : Int} : Post (cmpD .eq (.int i) (.int j)) G ok ex ↔ ok (.bl (i == j)) G := p_eqP rfl rfl (show 0 ≤ 63 by decide)
theorem p_neI {i j : Int} : Post (cmpD .ne (.int i) (.int j)) G ok ex ↔ ok (.bl (!(i == j))) G := p_neP rfl rfl (show 0 ≤ 63 by decide)
theorem p_neB {i j : Bool} : Post (cmpD .ne (.bl i) (.bl j)) G ok ex ↔ ok (.bl (!(i == j))) G := p_neP rfl rfl (show 0 ≤ 63 by decide)
theorem any_pys {a : D} (ha : pureD a = true) : ∀ {ys : List D}, pureDs ys = true → ((pys ys).any fun p => PyData.eqv p (py a)) = ys.any fun y => eqv y a
  | [], _ => rfl
  | y :: ys, hy => by
    simp only [pureDs, Bool.and_eq_true] at hy
    simp only [pys, List.any_cons]
    rw [py_eqv y a hy.1 ha, any_pys ha hy.2]
theorem p_in {a : D} {b : D} {o : Bool} (h : Post (getS b) G (fun ys G1 => (pureD a = true ∧ pureDs ys = true ∧ max (deps ys) (dep a) ≤ 63) ∧ ok (.bl (if o then (ys.any fun y => eqv y a) else !(ys.any fun y => eqv y a))) G1) ex) : Post (cmpD (if o then .isin else .notin) a b) G ok ex := by
  have key : ∀ {okk : Bool → GH → Prop}, Post (getS b) G (fun ys G1 => (pureD a = true ∧ pureDs ys = true ∧ max (deps ys) (dep a) ≤ 63) ∧ okk (ys.any fun y => eqv y a) G1) ex → Post (inD a b) G okk ex := by
    intro okk hk
    unfold inD
    rw [p_bind]
    refine hk.mono (fun ys G1 q => ?_) fun _ _ _ z => z
    obtain ⟨⟨q1, q2, q3⟩, q4⟩ := q
    have e1 : mapO (rs G1 64) ys = some (pys ys) := mapO_pure (fun d h1 h2 => rs_pure 64 d h1 h2) q2 (fun _ => by omega)
    have e2 := rs_pure (G := G1) 64 a q1 (by omega)
    unfold Post
    simp only [e1, e2]
    rw [any_pys q1 q2]; exact q4
  cases o with
  | true =>
    show Post (inD a b >>= fun c => mret (.bl c)) G ok ex
    rw [p_bind]
    exact key (h.mono (fun _ _ z => z) fun _ _ _ z => z)
  | false =>
    show Post (inD a b >>= fun c => mret (.bl (!c))) G ok ex
    rw [p_bind]
    exact key (h.mono (fun _ _ z => z) fun _ _ _ z => z)
/-! built-ins -/
theorem p_len {a : D} : Post (biD .len [a]) G ok ex ↔ Post (getS a) G (fun xs G1 => ok (.int xs.length) G1) ex := by
  show Post (getS a >>= fun xs => mret (.int xs.length)) G ok ex ↔ _
  rw [p_bind]; rfl
theorem p_abs {i : Int} : Post (biD .abs [.int i]) G ok ex ↔ ok (.int (if i < 0 then -i else i)) G := Iff.rfl
theorem p_intI {i : Int} : Post (biD .int [.int i]) G ok ex ↔ ok (.int i) G := Iff.rfl
theorem p_intB {i : Bool} : Post (biD .int [.bl i]) G ok ex ↔ ok (.int (if i then 1 else 0)) G := Iff.rfl
theorem p_max {i j : Int} : Post (biD .max2 [.int i, .int j]) G ok ex ↔ ok (.int (if j > i then j else i)) G := Iff.rfl
theorem p_min {i j : Int} : Post (biD .min2 [.int i, .int j]) G ok ex ↔ ok (.int (if j < i then j else i)) G := Iff.rfl
theorem p_gcd {i j : Int} : Post (biD .gcd [.int i, .int j]) G ok ex ↔ ok (.int ((Nat.gcd i.natAbs j.natAbs : Nat) : Int)) G := Iff.rfl
theorem p_tuple {a : D} : Post (biD .tuple [a]) G ok ex ↔ Post (getS a) G (fun xs G1 => ok (.tup xs) G1) ex := by
  show Post (getS a >>= fun xs => mret (.tup xs)) G ok ex ↔ _
  rw [p_bind]; rfl
theorem p_all {a : D} : Post (biD .all [a]) G ok ex ↔ Post (getL a) G (fun xs G1 => match bls? xs with | some bs => ok (.bl (bs.all id)) G1 | none => False) ex := by
  show Post (getL a >>= fun xs => (match bls? xs with | some bs => mret (.bl (bs.all id)) | none => mbad)) G ok ex ↔ _
  rw [p_bind]
  have key : ∀ (xs : List D) (G2 : GH), Post (match bls? xs with | some bs => mret (D.bl (bs.all id)) | none => mbad) G2 ok ex ↔ (match bls? xs with | some bs => ok (.bl (bs.all id)) G2 | none => False) := by
    intro xs G2; cases bls? xs <;> rfl
  simp only [key]
theorem p_sum {a : D} : Post (biD .sum [a]) G ok ex ↔ Post (getL a) G (fun xs G1 => match ints? xs with | some ns => ok (.int ns.sum) G1 | none => False) ex := by
  show Post (getL a >>= fun xs => (match ints? xs with | some ns => mret (.int ns.sum) | none => mbad)) G ok ex ↔ _
  rw [p_bind]
  have key : ∀ (xs : List D) (G2 : GH), Post (match ints? xs with | some ns => mret (D.int ns.sum) | none => mbad) G2 ok ex ↔ (match ints? xs with | some ns => ok (.int ns.sum) G2 | none => False) := by
    intro xs G2; cases ints? xs <;> rfl
  simp only [key]
theorem p_sl_tup {xs : List D} {l h : Option Int} : Post (sliceD (.tup xs) l h) G ok ex ↔ ok (.tup (cutD xs l h)) G := Iff.rfl
theorem p_sl_frz {xs : List D} {l h : Option Int} : Post (sliceD (.frz xs) l h) G ok ex ↔ (cutD xs l h).length ≤ sizeLine ∧ ok (.loc G.length) (G ++ [.lst (cutD xs l h)]) := p_newL
theorem p_sl_loc {i : Nat} {xs : List D} {l h : Option Int} (e : G[i]? = some (.lst xs)) : Post (sliceD (.loc i) l h) G ok ex ↔ (cutD xs l h).length ≤ sizeLine ∧ ok (.loc G.length) (G ++ [.lst (cutD xs l h)]) := by
  rw [← p_newL (ex := ex)]
  show Post (fun G => (match G[i]? with | some (.lst xs) => newL (cutD xs l h) G | none => .bad)) G ok ex ↔ _
  unfold Post
  simp only [e]
end
/-- is an integer -/
def isI : D → Bool
  | .int _ => true
  | _ => false
/-- known by itself -/
def plain : D → Bool
  | .loc _ => false
  | _ => true
/-- what every law's text has -/
structure HB (P : Prg) : Prop where
  i0 : P[0]? = some f_is_integer
  i1 : P[1]? = some f_is_from
  i3 : P[3]? = some f_is_tuple
  i6 : P[6]? = some f_ahead
  i16 : P[16]? = some f__law_source
  i17 : P[17]? = some f__law_draw
  i18 : P[18]? = some f__law_pick
  i19 : P[19]? = some f__law_same
  i20 : P[20]? = some f__law_ahead
  i21 : P[21]? = some f__law_low
  i22 : P[22]? = some f__law_sorted
  i23 : P[23]? = some f__law_number
  i24 : P[24]? = some f__law_constants
variable {P : Prg} (H : HB P)
include H in
theorem s_is_integer {n : Nat} {d : D} {G : GH} {ok : D → GH → Prop} {ex : Str → Option D → GH → Prop} (hd : ∀ i, d = .loc i → ∃ xs, G[i]? = some (.lst xs)) (h : ok (.bl (isI d)) G) : Post (callN P (n + 1) 0 [d]) G ok ex := by
  rw [p_call (fn := f_is_integer) H.i0 rfl]
  unfold f_is_integer
  simp (config := {failIfUnchanged := false}) only [p_consS, p_nilS, p_ret, p_set, p_setI, p_ex, p_ifs, p_for, p_raise, p_pass, p_try, p_nilH, p_consH, p_k, p_gl, p_tup, p_lst, p_op, p_cmp, p_neg, p_not, p_bool1, p_bool2, p_ife, p_idx, p_kidx, p_slice, p_onone, p_osome, p_rev, p_tupR, p_callE0, p_callEK, p_bi, p_isinE, p_meth, p_nil, p_cons, p_v, p_comp, p_sq, p_seq_tup, p_seq_frz, p_rng1, p_enm, p_zip, p_add, p_sub, p_mul, p_fdiv, p_mod, p_pow, p_addT, p_lt, p_le, p_gt, p_ge, p_isN, p_isnN, p_isnB, p_eqI, p_neI, p_neB, p_len, p_abs, p_intI, p_intB, p_max, p_min, p_gcd, p_tuple, p_all, p_sum, p_sl_tup, p_sl_frz, p_getS_tup, p_getS_frz, p_getL_frz, p_newL, startD, List.map_cons, List.map_nil, List.replicate, List.length_cons, List.length_nil, List.cons_append, List.nil_append, List.append_nil, List.getElem?_cons_zero, List.getElem?_cons_succ, List.set_cons_zero, List.set_cons_succ, assignT, assignT.setAll, Nat.reduceAdd, Nat.reduceSub, Nat.reduceEqDiff, Nat.zero_add, if_true, if_false, Bool.not_true, Bool.not_false, Bool.false_eq_true, Bool.true_eq_false, Bool.not_eq_true, ite_true, ite_false, true_and, and_true]
  cases d with
  | loc i =>
    obtain ⟨xs, e⟩ := hd i rfl
    simp [isTys, isTy, e]
    exact h
  | _ => simp [isTys, isTy]; exact h
/-! ### loops -/
theorem comp_rule {gs : Guard} {l : Nat} {turn : D → M (Option D)} {ok : Unit → GH → Prop} {ex : Str → Option D → GH → Prop} (I : Nat → List D → GH → Prop) {xs : List D}
    (hstep : ∀ i x acc G, xs[i]? = some x → G[l]? = some (.lst acc) → I i acc G → chkG gs G = true ∧ Post (turn x) G (fun o G1 => match o with
      | none => G1[l]? = some (.lst acc) ∧ I (i + 1) acc G1
      | some d => G1[l]? = some (.lst acc) ∧ acc.length < sizeLine ∧ I (i + 1) (acc ++ [d]) (G1.set l (.lst (acc ++ [d])))) noex)
    (hend : ∀ acc G, G[l]? = some (.lst acc) → I xs.length acc G → chkG gs G = true ∧ ok () G) :
    ∀ (k i : Nat) (acc : List D) (G : GH), i + k = xs.length → G[l]? = some (.lst acc) → I i acc G → Post (compG gs l turn (xs.drop i)) G ok ex
  | 0, i, acc, G, hk, hl, hI => by
    rw [List.drop_eq_nil_of_le (by omega)]
    have hi : i = xs.length := by omega
    subst hi
    obtain ⟨h1, h2⟩ := hend acc G hl hI
    unfold Post compG
    simp only [h1, if_true]
    exact h2
  | k + 1, i, acc, G, hk, hl, hI => by
    have hlt : i < xs.length := by omega
    rw [List.drop_eq_getElem_cons hlt]
    obtain ⟨h1, h2⟩ := hstep i xs[i] acc G (by simp [hlt]) hl hI
    unfold Post compG
    simp only [h1, if_true]
    unfold Post at h2
    cases e : turn xs[i] G with
    | bad => rw [e] at h2; exact h2.elim
    | exn c f G1 => rw [e] at h2; exact h2.elim
    | ok o G1 =>
      rw [e] at h2
      cases o with
      | none => exact comp_rule I hstep hend k (i + 1) acc G1 (by omega) h2.1 h2.2
      | some d =>
        obtain ⟨g1, g2, g3⟩ := h2
        simp only [g1, g2, if_true]
        refine comp_rule I hstep hend k (i + 1) (acc ++ [d]) _ (by omega) ?_ g3
        rw [List.getElem?_set_self (List.getElem?_eq_some_iff.mp g1).1]
theorem loop_rule {gs : Guard} {turn : D → Env' → M Fl} {ok : Fl → GH → Prop} {ex : Str → Option D → GH → Prop} (I : Nat → Env' → GH → Prop) {xs : List D}
    (hstep : ∀ i x σ G, xs[i]? = some x → I i σ G → chkG gs G = true ∧ Post (turn x σ) G (fun fl G1 => match fl with
      | .nx σ1 => I (i + 1) σ1 G1
      | .ct σ1 => I (i + 1) σ1 G1
      | .bk σ1 => ok (.nx σ1) G1
      | .rt d => ok (.rt d) G1
      | .xn c f σ1 => ok (.xn c f σ1) G1) noex)
    (hend : ∀ σ G, I xs.length σ G → chkG gs G = true ∧ ok (.nx σ) G) :
    ∀ (k i : Nat) (σ : Env') (G : GH), i + k = xs.length → I i σ G → Post (loopG gs turn (xs.drop i) σ) G ok ex
  | 0, i, σ, G, hk, hI => by
    rw [List.drop_eq_nil_of_le (by omega)]
    have hi : i = xs.length := by omega
    subst hi
    obtain ⟨h1, h2⟩ := hend σ G hI
    unfold Post loopG
    simp only [h1, if_true]
    exact h2
  | k + 1, i, σ, G, hk, hI => by
    have hlt : i < xs.length := by omega
    rw [List.drop_eq_getElem_cons hlt]
    obtain ⟨h1, h2⟩ := hstep i xs[i] σ G (by simp [hlt]) hI
    unfold Post loopG
    simp only [h1, if_true]
    unfold Post at h2
    cases e : turn xs[i] σ G with
    | bad => rw [e] at h2; exact h2.elim
    | exn c f G1 => rw [e] at h2; exact h2.elim
    | ok fl G1 =>
      rw [e] at h2
      cases fl with
      | nx σ1 => exact loop_rule I hstep hend k (i + 1) σ1 G1 (by omega) h2
      | ct σ1 => exact loop_rule I hstep hend k (i + 1) σ1 G1 (by omega) h2
      | bk σ1 => exact h2
      | rt d => exact h2
      | xn c f σ1 => exact h2
theorem comp_go {gs : Guard} {l : Nat} {turn : D → M (Option D)} {ok : Unit → GH → Prop} {ex : Str → Option D → GH → Prop} (I : Nat → List D → GH → Prop) {xs : List D} {G : GH} {acc : List D} (h0 : I 0 acc G) (hl : G[l]? = some (.lst acc))
    (hstep : ∀ i x acc G, xs[i]? = some x → G[l]? = some (.lst acc) → I i acc G → chkG gs G = true ∧ Post (turn x) G (fun o G1 => match o with
      | none => G1[l]? = some (.lst acc) ∧ I (i + 1) acc G1
      | some d => G1[l]? = some (.lst acc) ∧ acc.length < sizeLine ∧ I (i + 1) (acc ++ [d]) (G1.set l (.lst (acc ++ [d])))) noex)
    (hend : ∀ acc G, G[l]? = some (.lst acc) → I xs.length acc G → chkG gs G = true ∧ ok () G) : Post (compG gs l turn xs) G ok ex := by
  have := comp_rule (ex := ex) I hstep hend xs.length 0 acc G (by omega) hl h0
  simpa using this
theorem loop_go {gs : Guard} {turn : D → Env' → M Fl} {ok : Fl → GH → Prop} {ex : Str → Option D → GH → Prop} (I : Nat → Env' → GH → Prop) {xs : List D} {σ : Env'} {G : GH} (h0 : I 0 σ G)
    (hstep : ∀ i x σ G, xs[i]? = some x → I i σ G → chkG gs G = true ∧ Post (turn x σ) G (fun fl G1 => match fl with
      | .nx σ1 => I (i + 1) σ1 G1
      | .ct σ1 => I (i + 1) σ1 G1
      | .bk σ1 => ok (.nx σ1) G1
      | .rt d => ok (.rt d) G1
      | .xn c f σ1 => ok (.xn c f σ1) G1) noex)
    (hend : ∀ σ G, I xs.length σ G → chkG gs G = true ∧ ok (.nx σ) G) : Post (loopG gs turn xs σ) G ok ex := by
  have := loop_rule (ex := ex) I hstep hend xs.length 0 σ G (by omega) h0
  simpa using this
/-! ### heaps -/
/-- all kept but what stands at s -/
structure Kp (s : Nat) (G G' : GH) : Prop where
  le : G.length ≤ G'.length
  kat : ∀ q, q < G.length → q ≠ s → G'[q]? = G[q]?
theorem Kp.refl {s : Nat} {G : GH} : Kp s G G := ⟨Nat.le_refl _, fun _ _ _ => rfl⟩
theorem Kp.trans {s : Nat} {G G1 G2 : GH} (a : Kp s G G1) (b : Kp s G1 G2) : Kp s G G2 := ⟨Nat.le_trans a.le b.le, fun q hq hs => (b.kat q (Nat.lt_of_lt_of_le hq a.le) hs).trans (a.kat q hq hs)⟩
theorem Kp.app {s : Nat} {G t : GH} : Kp s G (G ++ t) := ⟨by simp, fun q hq _ => List.getElem?_append_left hq⟩
theorem Kp.get {s : Nat} {G G' : GH} (h : Kp s G G') {q : Nat} {o : GO} (e : G[q]? = some o) (hs : q ≠ s) : G'[q]? = some o := by
  rw [h.kat q (List.getElem?_eq_some_iff.mp e).1 hs]; exact e
/-- written at a place above -/
theorem Kp.setNew {s l : Nat} {G G' : GH} (h : Kp s G G') (hl : G.length ≤ l) {o : GO} : Kp s G (G'.set l o) := ⟨by simp [h.le], fun q hq hs => by rw [List.getElem?_set_ne (by omega)]; exact h.kat q hq hs⟩
theorem lt_of_get {G : GH} {q : Nat} {o : GO} (e : G[q]? = some o) : q < G.length := (List.getElem?_eq_some_iff.mp e).1
/-- the numbers' source -/
def SrcAt (s : Nat) (G : GH) : Prop := ∃ a b c : Int, G[s]? = some (.lst [.int a, .int b, .int c])
theorem SrcAt.lt {s : Nat} {G : GH} (h : SrcAt s G) : s < G.length := by obtain ⟨a, b, c, e⟩ := h; exact lt_of_get e
theorem SrcAt.app {s : Nat} {G t : GH} (h : SrcAt s G) : SrcAt s (G ++ t) := by
  obtain ⟨a, b, c, e⟩ := h
  exact ⟨a, b, c, by rw [List.getElem?_append_left (lt_of_get e)]; exact e⟩
theorem SrcAt.set {s l : Nat} {G : GH} {o : GO} (h : SrcAt s G) (hl : l ≠ s) : SrcAt s (G.set l o) := by
  obtain ⟨a, b, c, e⟩ := h
  exact ⟨a, b, c, by rw [List.getElem?_set_ne hl]; exact e⟩
/-! ### small functions -/
theorem small_mul_l {i j : Int} (h : i.natAbs < 2 ^ 63) : mulOk i j := .inl h
theorem small_mul_r {i j : Int} (h : j.natAbs < 2 ^ 63) : mulOk i j := .inr (.inl h)
theorem fitsD_small {j : Int} (h : j.natAbs < 2 ^ 64) : fitsD j := Nat.lt_of_lt_of_le h (Nat.pow_le_pow_right (by decide) (by unfold divBits; decide))
def fromB (low : Int) : D → Bool
  | .int i => decide (low ≤ i)
  | _ => false
def belowB (many : Int) : D → Bool
  | .int i => decide (0 ≤ i) && decide (i < many)
  | _ => false
section
variable {n : Nat} {G : GH} {ok : D → GH → Prop} {ex : Str → Option D → GH → Prop}
/-- known things -/
def Kn (G : GH) (d : D) : Prop := ∀ i, d = .loc i → ∃ xs, G[i]? = some (.lst xs)
theorem Kn.pure {d : D} (h : pureD d = true) : Kn G d := fun i e => by subst e; simp [pureD] at h
include H in
theorem s_is_from {low : Int} {d : D} (hd : Kn G d) (h : ok (.bl (fromB low d)) G) : Post (callN P (n + 2) 1 [.int low, d]) G ok ex := by
  rw [p_call (fn := f_is_from) H.i1 rfl]
  unfold f_is_from
  simp (config := {failIfUnchanged := false}) only [p_consS, p_nilS, p_ret, p_set, p_setI, p_ex, p_ifs, p_for, p_raise, p_pass, p_try, p_nilH, p_consH, p_k, p_gl, p_tup, p_lst, p_op, p_cmp, p_neg, p_not, p_bool1, p_bool2, p_ife, p_idx, p_kidx, p_slice, p_onone, p_osome, p_rev, p_tupR, p_callE0, p_callEK, p_bi, p_isinE, p_meth, p_nil, p_cons, p_v, p_comp, p_sq, p_seq_tup, p_seq_frz, p_rng1, p_enm, p_zip, p_add, p_sub, p_mul, p_fdiv, p_mod, p_pow, p_addT, p_lt, p_le, p_gt, p_ge, p_isN, p_isnN, p_isnB, p_eqI, p_neI, p_neB, p_len, p_abs, p_intI, p_intB, p_max, p_min, p_gcd, p_tuple, p_all, p_sum, p_sl_tup, p_sl_frz, p_getS_tup, p_getS_frz, p_getL_frz, p_newL, startD, List.map_cons, List.map_nil, List.replicate, List.length_cons, List.length_nil, List.cons_append, List.nil_append, List.append_nil, List.getElem?_cons_zero, List.getElem?_cons_succ, List.set_cons_zero, List.set_cons_succ, assignT, assignT.setAll, Nat.reduceAdd, Nat.reduceSub, Nat.reduceEqDiff, Nat.zero_add, if_true, if_false, Bool.not_true, Bool.not_false, Bool.false_eq_true, Bool.true_eq_false, Bool.not_eq_true, ite_true, ite_false, true_and, and_true]
  refine s_is_integer H hd ?_
  cases d with
  | int i => simp only [isI, if_true]; simp (config := {failIfUnchanged := false}) only [p_consS, p_nilS, p_ret, p_set, p_setI, p_ex, p_ifs, p_for, p_raise, p_pass, p_try, p_nilH, p_consH, p_k, p_gl, p_tup, p_lst, p_op, p_cmp, p_neg, p_not, p_bool1, p_bool2, p_ife, p_idx, p_kidx, p_slice, p_onone, p_osome, p_rev, p_tupR, p_callE0, p_callEK, p_bi, p_isinE, p_meth, p_nil, p_cons, p_v, p_comp, p_sq, p_seq_tup, p_seq_frz, p_rng1, p_enm, p_zip, p_add, p_sub, p_mul, p_fdiv, p_mod, p_pow, p_addT, p_lt, p_le, p_gt, p_ge, p_isN, p_isnN, p_isnB, p_eqI, p_neI, p_neB, p_len, p_abs, p_intI, p_intB, p_max, p_min, p_gcd, p_tuple, p_all, p_sum, p_sl_tup, p_sl_frz, p_getS_tup, p_getS_frz, p_getL_frz, p_newL, startD, List.map_cons, List.map_nil, List.replicate, List.length_cons, List.length_nil, List.cons_append, List.nil_append, List.append_nil, List.getElem?_cons_zero, List.getElem?_cons_succ, List.set_cons_zero, List.set_cons_succ, assignT, assignT.setAll, Nat.reduceAdd, Nat.reduceSub, Nat.reduceEqDiff, Nat.zero_add, if_true, if_false, Bool.not_true, Bool.not_false, Bool.false_eq_true, Bool.true_eq_false, Bool.not_eq_true, ite_true, ite_false, true_and, and_true]; exact h
  | _ => exact h
def tupB (k : Int) : D → Bool
  | .tup xs => ((xs.length : Int) == k)
  | _ => false
def isT : D → Bool
  | .tup _ => true
  | _ => false
theorem isTy_tup {d : D} (hd : Kn G d) : isTys G d [.tup] = some (isT d) := by
  cases d with
  | loc i =>
    obtain ⟨xs, e⟩ := hd i rfl
    simp [isTys, isTy, e, isT]
  | _ => simp [isTys, isTy, isT] <;> rfl
include H in
theorem s_is_tuple {k : Int} {d : D} (hd : Kn G d) (h : ok (.bl (tupB k d)) G) : Post (callN P (n + 1) 3 [.int k, d]) G ok ex := by
  rw [p_call (fn := f_is_tuple) H.i3 rfl]
  unfold f_is_tuple
  simp (config := {failIfUnchanged := false}) only [p_consS, p_nilS, p_ret, p_set, p_setI, p_ex, p_ifs, p_for, p_raise, p_pass, p_try, p_nilH, p_consH, p_k, p_gl, p_tup, p_lst, p_op, p_cmp, p_neg, p_not, p_bool1, p_bool2, p_ife, p_idx, p_kidx, p_slice, p_onone, p_osome, p_rev, p_tupR, p_callE0, p_callEK, p_bi, p_isinE, p_meth, p_nil, p_cons, p_v, p_comp, p_sq, p_seq_tup, p_seq_frz, p_rng1, p_enm, p_zip, p_add, p_sub, p_mul, p_fdiv, p_mod, p_pow, p_addT, p_lt, p_le, p_gt, p_ge, p_isN, p_isnN, p_isnB, p_eqI, p_neI, p_neB, p_len, p_abs, p_intI, p_intB, p_max, p_min, p_gcd, p_tuple, p_all, p_sum, p_sl_tup, p_sl_frz, p_getS_tup, p_getS_frz, p_getL_frz, p_newL, startD, List.map_cons, List.map_nil, List.replicate, List.length_cons, List.length_nil, List.cons_append, List.nil_append, List.append_nil, List.getElem?_cons_zero, List.getElem?_cons_succ, List.set_cons_zero, List.set_cons_succ, assignT, assignT.setAll, Nat.reduceAdd, Nat.reduceSub, Nat.reduceEqDiff, Nat.zero_add, if_true, if_false, Bool.not_true, Bool.not_false, Bool.false_eq_true, Bool.true_eq_false, Bool.not_eq_true, ite_true, ite_false, true_and, and_true, isTy_tup hd]
  cases d with
  | tup xs => simp only [isT, if_true]; simp (config := {failIfUnchanged := false}) only [p_consS, p_nilS, p_ret, p_set, p_setI, p_ex, p_ifs, p_for, p_raise, p_pass, p_try, p_nilH, p_consH, p_k, p_gl, p_tup, p_lst, p_op, p_cmp, p_neg, p_not, p_bool1, p_bool2, p_ife, p_idx, p_kidx, p_slice, p_onone, p_osome, p_rev, p_tupR, p_callE0, p_callEK, p_bi, p_isinE, p_meth, p_nil, p_cons, p_v, p_comp, p_sq, p_seq_tup, p_seq_frz, p_rng1, p_enm, p_zip, p_add, p_sub, p_mul, p_fdiv, p_mod, p_pow, p_addT, p_lt, p_le, p_gt, p_ge, p_isN, p_isnN, p_isnB, p_eqI, p_neI, p_neB, p_len, p_abs, p_intI, p_intB, p_max, p_min, p_gcd, p_tuple, p_all, p_sum, p_sl_tup, p_sl_frz, p_getS_tup, p_getS_frz, p_getL_frz, p_newL, startD, List.map_cons, List.map_nil, List.replicate, List.length_cons, List.length_nil, List.cons_append, List.nil_append, List.append_nil, List.getElem?_cons_zero, List.getElem?_cons_succ, List.set_cons_zero, List.set_cons_succ, assignT, assignT.setAll, Nat.reduceAdd, Nat.reduceSub, Nat.reduceEqDiff, Nat.zero_add, if_true, if_false, Bool.not_true, Bool.not_false, Bool.false_eq_true, Bool.true_eq_false, Bool.not_eq_true, ite_true, ite_false, true_and, and_true, isNon]; exact h
  | _ => exact h
include H in
theorem s_is_tupleN {d : D} (hd : Kn G d) (h : ok (.bl (isT d)) G) : Post (callN P (n + 1) 3 [.non, d]) G ok ex := by
  rw [p_call (fn := f_is_tuple) H.i3 rfl]
  unfold f_is_tuple
  simp (config := {failIfUnchanged := false}) only [p_consS, p_nilS, p_ret, p_set, p_setI, p_ex, p_ifs, p_for, p_raise, p_pass, p_try, p_nilH, p_consH, p_k, p_gl, p_tup, p_lst, p_op, p_cmp, p_neg, p_not, p_bool1, p_bool2, p_ife, p_idx, p_kidx, p_slice, p_onone, p_osome, p_rev, p_tupR, p_callE0, p_callEK, p_bi, p_isinE, p_meth, p_nil, p_cons, p_v, p_comp, p_sq, p_seq_tup, p_seq_frz, p_rng1, p_enm, p_zip, p_add, p_sub, p_mul, p_fdiv, p_mod, p_pow, p_addT, p_lt, p_le, p_gt, p_ge, p_isN, p_isnN, p_isnB, p_eqI, p_neI, p_neB, p_len, p_abs, p_intI, p_intB, p_max, p_min, p_gcd, p_tuple, p_all, p_sum, p_sl_tup, p_sl_frz, p_getS_tup, p_getS_frz, p_getL_frz, p_newL, startD, List.map_cons, List.map_nil, List.replicate, List.length_cons, List.length_nil, List.cons_append, List.nil_append, List.append_nil, List.getElem?_cons_zero, List.getElem?_cons_succ, List.set_cons_zero, List.set_cons_succ, assignT, assignT.setAll, Nat.reduceAdd, Nat.reduceSub, Nat.reduceEqDiff, Nat.zero_add, if_true, if_false, Bool.not_true, Bool.not_false, Bool.false_eq_true, Bool.true_eq_false, Bool.not_eq_true, ite_true, ite_false, true_and, and_true, isTy_tup hd]
  cases d with
  | tup xs => simp only [isT, if_true]; simp (config := {failIfUnchanged := false}) only [p_consS, p_nilS, p_ret, p_set, p_setI, p_ex, p_ifs, p_for, p_raise, p_pass, p_try, p_nilH, p_consH, p_k, p_gl, p_tup, p_lst, p_op, p_cmp, p_neg, p_not, p_bool1, p_bool2, p_ife, p_idx, p_kidx, p_slice, p_onone, p_osome, p_rev, p_tupR, p_callE0, p_callEK, p_bi, p_isinE, p_meth, p_nil, p_cons, p_v, p_comp, p_sq, p_seq_tup, p_seq_frz, p_rng1, p_enm, p_zip, p_add, p_sub, p_mul, p_fdiv, p_mod, p_pow, p_addT, p_lt, p_le, p_gt, p_ge, p_isN, p_isnN, p_isnB, p_eqI, p_neI, p_neB, p_len, p_abs, p_intI, p_intB, p_max, p_min, p_gcd, p_tuple, p_all, p_sum, p_sl_tup, p_sl_frz, p_getS_tup, p_getS_frz, p_getL_frz, p_newL, startD, List.map_cons, List.map_nil, List.replicate, List.length_cons, List.length_nil, List.cons_append, List.nil_append, List.append_nil, List.getElem?_cons_zero, List.getElem?_cons_succ, List.set_cons_zero, List.set_cons_succ, assignT, assignT.setAll, Nat.reduceAdd, Nat.reduceSub, Nat.reduceEqDiff, Nat.zero_add, if_true, if_false, Bool.not_true, Bool.not_false, Bool.false_eq_true, Bool.true_eq_false, Bool.not_eq_true, ite_true, ite_false, true_and, and_true, isNon]; exact h
  | _ => exact h
def numB : D → Bool
  | .tup [.int a, .int b] => decide (1 ≤ b) && (((Nat.gcd a.natAbs b.natAbs : Nat) : Int) == 1)
  | _ => false
theorem pure2 {x y : D} (h : pureD (.tup [x, y]) = true) : pureD x = true ∧ pureD y = true := by
  simpa [pureD, pureDs] using h
theorem atI0 {x : D} {xs : List D} : atI (x :: xs) 0 = some x := by simp [atI, ixN]
theorem atI1 {x y : D} {xs : List D} : atI (x :: y :: xs) 1 = some y := by
  simp only [atI, ixN, List.length_cons]
  rw [if_pos (by omega), if_pos (by omega)]
  rfl
theorem numB_len {xs : List D} (h : ((xs.length : Int) == 2) = false) : numB (.tup xs) = false := by
  match xs, h with
  | [], _ => rfl
  | [a], _ => cases a <;> rfl
  | [a, b], h => simp at h
  | a :: b :: c :: r, _ => cases a <;> first | rfl | (cases b <;> rfl)
/-- a number: top, bottom -/
structure Nm (B : Int) (a b : Int) : Prop where
  pos : 0 < b
  le : b ≤ B
  cop : Nat.gcd a.natAbs b.natAbs = 1
abbrev nD (a b : Int) : D := .tup [.int a, .int b]
theorem Nm.num {B a b : Int} (h : Nm B a b) : numB (nD a b) = true := by
  have := h.pos
  simp [numB, h.cop]; omega
include H in
theorem s_ahead {a b c d : Int} (hb : b.natAbs < 2 ^ 63) (hd : d.natAbs < 2 ^ 63) (h : ok (.bl (decide (a * d < c * b))) G) : Post (callN P (n + 1) 6 [nD a b, nD c d]) G ok ex := by
  rw [p_call (fn := f_ahead) H.i6 rfl]
  unfold f_ahead
  simp (config := {failIfUnchanged := false}) only [p_consS, p_nilS, p_ret, p_set, p_setI, p_ex, p_ifs, p_for, p_raise, p_pass, p_try, p_nilH, p_consH, p_k, p_gl, p_tup, p_lst, p_op, p_cmp, p_neg, p_not, p_bool1, p_bool2, p_ife, p_idx, p_kidx, p_slice, p_onone, p_osome, p_rev, p_tupR, p_callE0, p_callEK, p_bi, p_isinE, p_meth, p_nil, p_cons, p_v, p_comp, p_sq, p_seq_tup, p_seq_frz, p_rng1, p_enm, p_zip, p_add, p_sub, p_mul, p_fdiv, p_mod, p_pow, p_addT, p_lt, p_le, p_gt, p_ge, p_isN, p_isnN, p_isnB, p_eqI, p_neI, p_neB, p_len, p_abs, p_intI, p_intB, p_max, p_min, p_gcd, p_tuple, p_all, p_sum, p_sl_tup, p_sl_frz, p_getS_tup, p_getS_frz, p_getL_frz, p_newL, startD, List.map_cons, List.map_nil, List.replicate, List.length_cons, List.length_nil, List.cons_append, List.nil_append, List.append_nil, List.getElem?_cons_zero, List.getElem?_cons_succ, List.set_cons_zero, List.set_cons_succ, assignT, assignT.setAll, Nat.reduceAdd, Nat.reduceSub, Nat.reduceEqDiff, Nat.zero_add, if_true, if_false, Bool.not_true, Bool.not_false, Bool.false_eq_true, Bool.true_eq_false, Bool.not_eq_true, ite_true, ite_false, true_and, and_true, atI0, atI1]
  exact ⟨small_mul_r hd, small_mul_r hb, h⟩
include H in
theorem s_lahead {a b c d : Int} (hb : b.natAbs < 2 ^ 63) (hd : d.natAbs < 2 ^ 63) (h : ok (.bl (decide (a * d < c * b))) G) : Post (callN P (n + 1) 20 [nD a b, nD c d]) G ok ex := by
  rw [p_call (fn := f__law_ahead) H.i20 rfl]
  unfold f__law_ahead
  simp (config := {failIfUnchanged := false}) only [p_consS, p_nilS, p_ret, p_set, p_setI, p_ex, p_ifs, p_for, p_raise, p_pass, p_try, p_nilH, p_consH, p_k, p_gl, p_tup, p_lst, p_op, p_cmp, p_neg, p_not, p_bool1, p_bool2, p_ife, p_idx, p_kidx, p_slice, p_onone, p_osome, p_rev, p_tupR, p_callE0, p_callEK, p_bi, p_isinE, p_meth, p_nil, p_cons, p_v, p_comp, p_sq, p_seq_tup, p_seq_frz, p_rng1, p_enm, p_zip, p_add, p_sub, p_mul, p_fdiv, p_mod, p_pow, p_addT, p_lt, p_le, p_gt, p_ge, p_isN, p_isnN, p_isnB, p_eqI, p_neI, p_neB, p_len, p_abs, p_intI, p_intB, p_max, p_min, p_gcd, p_tuple, p_all, p_sum, p_sl_tup, p_sl_frz, p_getS_tup, p_getS_frz, p_getL_frz, p_newL, startD, List.map_cons, List.map_nil, List.replicate, List.length_cons, List.length_nil, List.cons_append, List.nil_append, List.append_nil, List.getElem?_cons_zero, List.getElem?_cons_succ, List.set_cons_zero, List.set_cons_succ, assignT, assignT.setAll, Nat.reduceAdd, Nat.reduceSub, Nat.reduceEqDiff, Nat.zero_add, if_true, if_false, Bool.not_true, Bool.not_false, Bool.false_eq_true, Bool.true_eq_false, Bool.not_eq_true, ite_true, ite_false, true_and, and_true, atI0, atI1]
  exact ⟨small_mul_r hd, small_mul_r hb, h⟩
include H in
theorem s_draw {s : Nat} {many : Int} (hs : SrcAt s G) (h0 : 0 < many) (hm : many.natAbs < 2 ^ 64) (h : ∀ (f : Int) G', 0 ≤ f → f < many → SrcAt s G' → Kp s G G' → ok (.int f) G') : Post (callN P (n + 1) 17 [.loc s, .int many]) G ok ex := by
  rw [p_call (fn := f__law_draw) H.i17 rfl]
  unfold f__law_draw
  obtain ⟨a, b, c, e⟩ := hs
  have hl := lt_of_get e
  have kp : ∀ o, Kp s G (G.set s o) := fun o => ⟨by simp, fun q _ hq => List.getElem?_set_ne (Ne.symm hq)⟩
  have kp2 : ∀ o o', Kp s G ((G.set s o).set s o') := fun o o' => by rw [List.set_set]; exact kp o'
  have e2 : ∀ xs, (G.set s (.lst xs))[s]? = some (.lst xs) := fun xs => List.getElem?_set_self hl
  simp (config := {failIfUnchanged := false}) only [p_consS, p_nilS, p_ret, p_set, p_setI, p_ex, p_ifs, p_for, p_raise, p_pass, p_try, p_nilH, p_consH, p_k, p_gl, p_tup, p_lst, p_op, p_cmp, p_neg, p_not, p_bool1, p_bool2, p_ife, p_idx, p_kidx, p_slice, p_onone, p_osome, p_rev, p_tupR, p_callE0, p_callEK, p_bi, p_isinE, p_meth, p_nil, p_cons, p_v, p_comp, p_sq, p_seq_tup, p_seq_frz, p_rng1, p_enm, p_zip, p_add, p_sub, p_mul, p_fdiv, p_mod, p_pow, p_addT, p_lt, p_le, p_gt, p_ge, p_isN, p_isnN, p_isnB, p_eqI, p_neI, p_neB, p_len, p_abs, p_intI, p_intB, p_max, p_min, p_gcd, p_tuple, p_all, p_sum, p_sl_tup, p_sl_frz, p_getS_tup, p_getS_frz, p_getL_frz, p_newL, startD, List.map_cons, List.map_nil, List.replicate, List.length_cons, List.length_nil, List.cons_append, List.nil_append, List.append_nil, List.getElem?_cons_zero, List.getElem?_cons_succ, List.set_cons_zero, List.set_cons_succ, assignT, assignT.setAll, Nat.reduceAdd, Nat.reduceSub, Nat.reduceEqDiff, Nat.zero_add, if_true, if_false, Bool.not_true, Bool.not_false, Bool.false_eq_true, Bool.true_eq_false, Bool.not_eq_true, ite_true, ite_false, true_and, and_true, p_getS_loc e, atI0]
  by_cases ha : (0 : Int) < a
  · simp only [ha, decide_true, if_true]
    simp (config := {failIfUnchanged := false}) only [p_consS, p_nilS, p_ret, p_set, p_setI, p_ex, p_ifs, p_for, p_raise, p_pass, p_try, p_nilH, p_consH, p_k, p_gl, p_tup, p_lst, p_op, p_cmp, p_neg, p_not, p_bool1, p_bool2, p_ife, p_idx, p_kidx, p_slice, p_onone, p_osome, p_rev, p_tupR, p_callE0, p_callEK, p_bi, p_isinE, p_meth, p_nil, p_cons, p_v, p_comp, p_sq, p_seq_tup, p_seq_frz, p_rng1, p_enm, p_zip, p_add, p_sub, p_mul, p_fdiv, p_mod, p_pow, p_addT, p_lt, p_le, p_gt, p_ge, p_isN, p_isnN, p_isnB, p_eqI, p_neI, p_neB, p_len, p_abs, p_intI, p_intB, p_max, p_min, p_gcd, p_tuple, p_all, p_sum, p_sl_tup, p_sl_frz, p_getS_tup, p_getS_frz, p_getL_frz, p_newL, startD, List.map_cons, List.map_nil, List.replicate, List.length_cons, List.length_nil, List.cons_append, List.nil_append, List.append_nil, List.getElem?_cons_zero, List.getElem?_cons_succ, List.set_cons_zero, List.set_cons_succ, assignT, assignT.setAll, Nat.reduceAdd, Nat.reduceSub, Nat.reduceEqDiff, Nat.zero_add, if_true, if_false, Bool.not_true, Bool.not_false, Bool.false_eq_true, Bool.true_eq_false, Bool.not_eq_true, ite_true, ite_false, true_and, and_true, p_getS_loc e, atI0, e]
    refine ⟨h0, ⟨h0, fitsD_small hm⟩, ?_⟩
    have ix : ixN [D.int a, D.int b, D.int c].length 0 = some 0 := by rfl
    simp only [List.length_cons, List.length_nil] at ix
    simp only [ix, Nat.reduceAdd, Nat.zero_add]
    simp (config := {failIfUnchanged := false}) only [p_consS, p_nilS, p_ret, p_set, p_setI, p_ex, p_ifs, p_for, p_raise, p_pass, p_try, p_nilH, p_consH, p_k, p_gl, p_tup, p_lst, p_op, p_cmp, p_neg, p_not, p_bool1, p_bool2, p_ife, p_idx, p_kidx, p_slice, p_onone, p_osome, p_rev, p_tupR, p_callE0, p_callEK, p_bi, p_isinE, p_meth, p_nil, p_cons, p_v, p_comp, p_sq, p_seq_tup, p_seq_frz, p_rng1, p_enm, p_zip, p_add, p_sub, p_mul, p_fdiv, p_mod, p_pow, p_addT, p_lt, p_le, p_gt, p_ge, p_isN, p_isnN, p_isnB, p_eqI, p_neI, p_neB, p_len, p_abs, p_intI, p_intB, p_max, p_min, p_gcd, p_tuple, p_all, p_sum, p_sl_tup, p_sl_frz, p_getS_tup, p_getS_frz, p_getL_frz, p_newL, startD, List.map_cons, List.map_nil, List.replicate, List.length_cons, List.length_nil, List.cons_append, List.nil_append, List.append_nil, List.getElem?_cons_zero, List.getElem?_cons_succ, List.set_cons_zero, List.set_cons_succ, assignT, assignT.setAll, Nat.reduceAdd, Nat.reduceSub, Nat.reduceEqDiff, Nat.zero_add, if_true, if_false, Bool.not_true, Bool.not_false, Bool.false_eq_true, Bool.true_eq_false, Bool.not_eq_true, ite_true, ite_false, true_and, and_true, e]
    exact h _ _ (Int.emod_nonneg _ (by omega)) (Int.emod_lt_of_pos _ h0) ⟨_, _, _, e2 _⟩ (kp _)
  · simp only [ha, decide_false, Bool.false_eq_true, if_false]
    have a2 : atI [D.int a, D.int b, D.int c] 2 = some (.int c) := rfl
    have ix : ixN 3 2 = some 2 := by rfl
    simp (config := {failIfUnchanged := false}) only [p_consS, p_nilS, p_ret, p_set, p_setI, p_ex, p_ifs, p_for, p_raise, p_pass, p_try, p_nilH, p_consH, p_k, p_gl, p_tup, p_lst, p_op, p_cmp, p_neg, p_not, p_bool1, p_bool2, p_ife, p_idx, p_kidx, p_slice, p_onone, p_osome, p_rev, p_tupR, p_callE0, p_callEK, p_bi, p_isinE, p_meth, p_nil, p_cons, p_v, p_comp, p_sq, p_seq_tup, p_seq_frz, p_rng1, p_enm, p_zip, p_add, p_sub, p_mul, p_fdiv, p_mod, p_pow, p_addT, p_lt, p_le, p_gt, p_ge, p_isN, p_isnN, p_isnB, p_eqI, p_neI, p_neB, p_len, p_abs, p_intI, p_intB, p_max, p_min, p_gcd, p_tuple, p_all, p_sum, p_sl_tup, p_sl_frz, p_getS_tup, p_getS_frz, p_getL_frz, p_newL, startD, List.map_cons, List.map_nil, List.replicate, List.length_cons, List.length_nil, List.cons_append, List.nil_append, List.append_nil, List.getElem?_cons_zero, List.getElem?_cons_succ, List.set_cons_zero, List.set_cons_succ, assignT, assignT.setAll, Nat.reduceAdd, Nat.reduceSub, Nat.reduceEqDiff, Nat.zero_add, if_true, if_false, Bool.not_true, Bool.not_false, Bool.false_eq_true, Bool.true_eq_false, Bool.not_eq_true, ite_true, ite_false, true_and, and_true, p_getS_loc e, a2, e, ix]
    have e3 := e2 [.int a, .int b, .int (c + 1)]
    have a3 : atI [D.int a, D.int b, D.int (c + 1)] 2 = some (.int (c + 1)) := rfl
    have a1 : atI [D.int a, D.int b, D.int (c + 1)] 1 = some (.int b) := rfl
    simp (config := {failIfUnchanged := false}) only [p_consS, p_nilS, p_ret, p_set, p_setI, p_ex, p_ifs, p_for, p_raise, p_pass, p_try, p_nilH, p_consH, p_k, p_gl, p_tup, p_lst, p_op, p_cmp, p_neg, p_not, p_bool1, p_bool2, p_ife, p_idx, p_kidx, p_slice, p_onone, p_osome, p_rev, p_tupR, p_callE0, p_callEK, p_bi, p_isinE, p_meth, p_nil, p_cons, p_v, p_comp, p_sq, p_seq_tup, p_seq_frz, p_rng1, p_enm, p_zip, p_add, p_sub, p_mul, p_fdiv, p_mod, p_pow, p_addT, p_lt, p_le, p_gt, p_ge, p_isN, p_isnN, p_isnB, p_eqI, p_neI, p_neB, p_len, p_abs, p_intI, p_intB, p_max, p_min, p_gcd, p_tuple, p_all, p_sum, p_sl_tup, p_sl_frz, p_getS_tup, p_getS_frz, p_getL_frz, p_newL, startD, List.map_cons, List.map_nil, List.replicate, List.length_cons, List.length_nil, List.cons_append, List.nil_append, List.append_nil, List.getElem?_cons_zero, List.getElem?_cons_succ, List.set_cons_zero, List.set_cons_succ, assignT, assignT.setAll, Nat.reduceAdd, Nat.reduceSub, Nat.reduceEqDiff, Nat.zero_add, if_true, if_false, Bool.not_true, Bool.not_false, Bool.false_eq_true, Bool.true_eq_false, Bool.not_eq_true, ite_true, ite_false, true_and, and_true, p_getS_loc e3, a3, a1]
    refine ⟨small_mul_l (by decide), small_mul_r (by decide), by decide, ?_⟩
    have p1 : ∀ z : Int, 0 ≤ z % 2147483477 ∧ z % 2147483477 < 2147483477 := fun z => ⟨Int.emod_nonneg _ (by decide), Int.emod_lt_of_pos _ (by decide)⟩
    generalize hz : ((b + 104711 * (c + 1) + 17) * 92821 + 401) % 2147483477 = z
    have p2 := p1 ((b + 104711 * (c + 1) + 17) * 92821 + 401)
    rw [hz] at p2
    refine ⟨small_mul_l (by omega), small_mul_l (by decide), by decide, ⟨by decide, fitsD_small (by decide)⟩, h0, ?_⟩
    exact h _ _ (Int.emod_nonneg _ (by omega)) (Int.emod_lt_of_pos _ h0) ⟨_, _, _, e3⟩ (kp _)
end
end OC

namespace OC
open PySem PySem.Spec PyProof.Rows L2
variable {P : Prg} (H : HB P)
/-! ### numbers -/
theorem cop_eq {a b c d : Int} (hb : 0 < b) (hd : 0 < d) (h1 : Nat.gcd a.natAbs b.natAbs = 1) (h2 : Nat.gcd c.natAbs d.natAbs = 1) (h : a * d = c * b) : a = c ∧ b = d := by
  have hn : a.natAbs * d.natAbs = c.natAbs * b.natAbs := by rw [← Int.natAbs_mul, ← Int.natAbs_mul, h]
  have d1 : b.natAbs ∣ d.natAbs := by
    have : b.natAbs ∣ a.natAbs * d.natAbs := ⟨c.natAbs, by rw [hn, Nat.mul_comm]⟩
    exact Nat.Coprime.dvd_of_dvd_mul_left (show Nat.Coprime b.natAbs a.natAbs from by rw [Nat.Coprime, Nat.gcd_comm]; exact h1) this
  have d2 : d.natAbs ∣ b.natAbs := by
    have : d.natAbs ∣ c.natAbs * b.natAbs := ⟨a.natAbs, by rw [← hn, Nat.mul_comm]⟩
    exact Nat.Coprime.dvd_of_dvd_mul_left (show Nat.Coprime d.natAbs c.natAbs from by rw [Nat.Coprime, Nat.gcd_comm]; exact h2) this
  have e : b.natAbs = d.natAbs := Nat.dvd_antisymm d1 d2
  have e' : b = d := by omega
  subst e'
  exact ⟨Int.eq_of_mul_eq_mul_right (by omega) h, rfl⟩
theorem eqv_nD {a b c d : Int} : eqv (nD a b) (nD c d) = (decide (a = c) && decide (b = d)) := by
  show ((a == c) && ((b == d) && true)) = _
  rw [Bool.and_true]
  rfl
theorem eqv_num {B a b c d : Int} (h1 : Nm B a b) (h2 : Nm B c d) : eqv (nD a b) (nD c d) = decide (a * d = c * b) := by
  rw [eqv_nD]
  by_cases h : a * d = c * b
  · obtain ⟨e1, e2⟩ := cop_eq h1.pos h2.pos h1.cop h2.cop h
    subst e1; subst e2
    simp
  · have : ¬ (a = c ∧ b = d) := fun ⟨e1, e2⟩ => h (by subst e1; subst e2; rfl)
    rw [decide_eq_false h]
    by_cases ha : a = c
    · have hb : b ≠ d := fun e => this ⟨ha, e⟩
      simp [hb]
    · simp [ha]
theorem scale_lt {x y k : Int} (hk : 0 < k) : decide (x < y) = decide (x * k < y * k) := by
  have : x < y ↔ x * k < y * k := (Int.mul_lt_mul_right hk).symm
  exact decide_eq_decide.mpr this
theorem scale_eq {x y k : Int} (hk : 0 < k) : decide (x = y) = decide (x * k = y * k) := by
  have : x = y ↔ x * k = y * k := ⟨fun e => by rw [e], fun e => Int.eq_of_mul_eq_mul_right (by omega) e⟩
  exact decide_eq_decide.mpr this
theorem mul3_pos {x y : Int} (h1 : 0 < x) (h2 : 0 < y) : 0 < x * y := Int.mul_pos h1 h2
section
variable {n : Nat} {G : GH} {ok : D → GH → Prop} {ex : Str → Option D → GH → Prop}
theorem sz {k : Nat} (h : k ≤ 1000) : k ≤ sizeLine := by rw [sizeLine_eq]; omega
theorem p_eqN {a b c d : Int} : Post (cmpD .eq (nD a b) (nD c d)) G ok ex ↔ ok (.bl (eqv (nD a b) (nD c d))) G := p_eqP rfl rfl (by show max 1 1 ≤ 63; decide)
theorem p_index {i : Nat} {x : D} {xs : List D} {j : Nat} (e : G[i]? = some (.lst xs)) (hj : xs.findIdx? (fun y => eqv y x) = some j) (hf : flatD x = true ∧ xs.all flatD = true) : Post (methD .index (.loc i) [x]) G ok ex ↔ ok (.int (j : Nat)) G := by
  show Post (fun G => (match G[i]? with
    | some (.lst xs) => (match xs.findIdx? (fun y => eqv y x) with
      | some j => if flatD x = true ∧ xs.all flatD = true then .ok (.int (j : Nat)) G else .bad
      | none => .bad)
    | none => .bad)) G ok ex ↔ _
  unfold Post
  simp only [e, hj, hf, and_self, if_true]
end
section
variable {n : Nat} {G : GH} {ok : D → GH → Prop} {ex : Str → Option D → GH → Prop}
theorem get2a {x y : GO} : (G ++ [x] ++ [y])[G.length]? = some x := by simp
theorem get2b {x y : GO} : (G ++ [x] ++ [y])[(G ++ [x]).length]? = some y := by simp
theorem get1 {x : GO} : (G ++ [x])[G.length]? = some x := by simp
theorem p_addN {l1 l2 : List D} : Post (opD .add (.loc G.length) (.loc (G ++ [GO.lst l1]).length)) (G ++ [.lst l1] ++ [.lst l2]) ok ex ↔ (l1 ++ l2).length ≤ sizeLine ∧ ok (.loc (G ++ [GO.lst l1] ++ [GO.lst l2]).length) (G ++ [.lst l1] ++ [.lst l2] ++ [.lst (l1 ++ l2)]) := p_addL get2a get2b
end
section
variable {n : Nat} {G : GH} {ok : D → GH → Prop} {ex : Str → Option D → GH → Prop}
theorem ifTT {A B : Prop} (h : A) : if true = true then A else B := by rw [if_pos rfl]; exact h
theorem ifFF {A B : Prop} (h : A) : if false = false then A else B := by rw [if_pos rfl]; exact h
theorem ifFT {A B : Prop} (h : B) : if false = true then A else B := by rw [if_neg (by decide)]; exact h
theorem ifTF {A B : Prop} (h : B) : if true = false then A else B := by rw [if_neg (by decide)]; exact h
theorem ifTr {A B : Prop} [i : Decidable True] (h : A) : if True then A else B := by rw [if_pos trivial]; exact h
theorem ifFa {A B : Prop} [i : Decidable False] (h : B) : if False then A else B := by rw [if_neg not_false]; exact h
theorem euclid_step {a b i c : Nat} (hb : 0 < b) (h0 : i = 0 → b = c) (h : 0 < i → b ≤ a ∧ a * b * 2 ^ (i - 1) ≤ c * c) : a % b ≤ b ∧ b * (a % b) * 2 ^ (i + 1 - 1) ≤ c * c := by
  have hm := Nat.mod_lt a hb
  refine ⟨Nat.le_of_lt hm, ?_⟩
  cases i with
  | zero =>
    have := h0 rfl
    subst this
    simp
    exact Nat.mul_le_mul_left _ (Nat.le_of_lt hm)
  | succ i =>
    obtain ⟨h1, h2⟩ := h (by omega)
    have h2 : a * b * 2 ^ i ≤ c * c := h2
    show b * (a % b) * 2 ^ (i + 1) ≤ c * c
    have h3 : 2 * (a % b) ≤ a := by
      have := Nat.div_add_mod a b
      have hd : 1 ≤ a / b := Nat.div_pos h1 hb
      have : b * 1 ≤ b * (a / b) := Nat.mul_le_mul_left b hd
      omega
    have e : b * (a % b) * 2 ^ (i + 1) = (2 * (a % b)) * (b * 2 ^ i) := by rw [Nat.pow_succ]; ac_rfl
    rw [e]
    refine Nat.le_trans (Nat.mul_le_mul_right _ h3) ?_
    rw [← Nat.mul_assoc]; exact h2
theorem lowest_of {top bottom : Int} {g : Nat} (hb : 0 < bottom) (hg : Nat.gcd top.natAbs bottom.natAbs = g) : ∃ k m : Int, top / (g : Int) = k ∧ bottom / (g : Int) = m ∧ Nm bottom k m ∧ k * bottom = top * m ∧ 0 < g ∧ (g : Int) ≤ bottom := by
  have gp : 0 < g := by rw [← hg]; exact Nat.gcd_pos_of_pos_right _ (by omega)
  obtain ⟨k', hk⟩ : (g : Int) ∣ top := by
    have : g ∣ top.natAbs := by rw [← hg]; exact Nat.gcd_dvd_left _ _
    exact Int.ofNat_dvd_left.mpr this
  obtain ⟨m', hm⟩ : (g : Int) ∣ bottom := by
    have : g ∣ bottom.natAbs := by rw [← hg]; exact Nat.gcd_dvd_right _ _
    exact Int.ofNat_dvd_left.mpr this
  have gi : (0 : Int) < g := by omega
  have e1 : top / (g : Int) = k' := by rw [hk]; exact Int.mul_ediv_cancel_left _ (by omega)
  have e2 : bottom / (g : Int) = m' := by rw [hm]; exact Int.mul_ediv_cancel_left _ (by omega)
  have mp : 0 < m' := by
    rcases Int.lt_trichotomy m' 0 with z | z | z
    · have := Int.mul_neg_of_pos_of_neg gi z; omega
    · subst z; simp at hm; omega
    · exact z
  have gl : (g : Int) ≤ bottom := by
    rw [hm]
    have : (g : Int) * 1 ≤ g * m' := Int.mul_le_mul_of_nonneg_left (by omega) (by omega)
    omega
  refine ⟨k', m', e1, e2, ⟨mp, ?_, ?_⟩, ?_, gp, gl⟩
  · rw [hm]
    have : 1 * m' ≤ (g : Int) * m' := Int.mul_le_mul_of_nonneg_right (by omega) (by omega)
    omega
  · have h1 : top.natAbs = g * k'.natAbs := by rw [hk, Int.natAbs_mul]; rfl
    have h2 : bottom.natAbs = g * m'.natAbs := by rw [hm, Int.natAbs_mul]; rfl
    rw [h1, h2, Nat.gcd_mul_left] at hg
    have : g * Nat.gcd k'.natAbs m'.natAbs = g * 1 := by omega
    exact Nat.eq_of_mul_eq_mul_left gp this
  · rw [hk, hm]; ac_rfl
include H in
theorem s_low {top bottom : Int} (hb : 0 < bottom) (hl : bottom < 2 ^ 31) (h : ∀ k m : Int, Nm bottom k m → k * bottom = top * m → ok (nD k m) G) : Post (callN P (n + 1) 21 [.int top, .int bottom]) G ok ex := by
  rw [p_call (fn := f__law_low) H.i21 rfl]
  unfold f__law_low
  simp only [startD, List.map_cons, List.map_nil, List.length_cons, List.length_nil, Nat.reduceAdd, Nat.reduceSub, Nat.zero_add, List.replicate, List.cons_append, List.nil_append, List.append_nil]
  obtain ⟨k, m, e1, e2, hn, hx, gp, gl⟩ := lowest_of (top := top) (bottom := bottom) hb rfl
  (repeat (first | ((with_reducible first | refine p_k.mpr ?_ | refine p_v.mpr ?_ | refine p_cons.mpr ?_ | refine p_nil.mpr ?_ | refine p_callE0.mpr ?_ | refine p_bool2.mpr ?_ | refine p_bool1.mpr ?_ | refine p_cmp.mpr ?_ | refine p_op.mpr ?_ | refine p_consS.mpr ?_ | refine p_nilS.mpr ?_ | refine p_ret.mpr ?_ | refine p_set.mpr ?_ | refine p_ex.mpr ?_ | refine p_ifs.mpr ?_ | refine p_lst.mpr ?_ | refine p_tup.mpr ?_ | refine p_neg.mpr ?_ | refine p_not.mpr ?_ | refine p_ife.mpr ?_ | refine p_idx.mpr ?_ | refine p_gl.mpr ?_ | refine p_slice.mpr ?_ | refine p_onone.mpr ?_ | refine p_osome.mpr ?_ | refine p_rev.mpr ?_ | refine p_tupR.mpr ?_ | refine p_callEK.mpr ?_ | refine p_bi.mpr ?_ | refine p_isinE.mpr ?_ | refine p_meth.mpr ?_ | refine p_comp.mpr ?_ | refine p_sq.mpr ?_ | refine p_rng1.mpr ?_ | refine p_enm.mpr ?_ | refine p_zip.mpr ?_ | refine p_for.mpr ?_ | refine p_raise.mpr ?_ | refine p_pass.mpr ?_ | refine p_setI.mpr ?_ | refine p_kidx.mpr ?_ | refine p_getS_tup.mpr ?_ | refine p_seq_tup.mpr ?_ | refine p_seq_frz.mpr ?_ | refine p_len.mpr ?_ | refine p_all.mpr ?_ | refine p_tuple.mpr ?_ | refine p_sum.mpr ?_ | refine p_add.mpr ?_ | refine p_sub.mpr ?_ | refine p_mul.mpr ⟨?_, ?_⟩ | refine p_lt.mpr ?_ | refine p_ge.mpr ?_ | refine p_gt.mpr ?_ | refine p_intI.mpr ?_ | refine p_eqI.mpr ?_) <;> (try dsimp only [List.getElem?_cons_zero, List.getElem?_cons_succ, List.set_cons_zero, List.set_cons_succ, assignT, assignT.setAll, List.length_cons, List.length_nil, List.cons_append, List.nil_append, startD, List.map_cons, List.map_nil, List.replicate, List.append_nil])) | with_reducible refine ifTr ?_ | with_reducible refine ifFa ?_ | with_reducible refine ifTT ?_ | with_reducible refine ifFT ?_ | with_reducible refine ifTF ?_ | with_reducible refine ifFF ?_ | (rw [if_pos rfl]; dsimp only [assignT.setAll, List.set_cons_zero, List.set_cons_succ]) | (rw [atI0]; dsimp only) | (rw [atI1]; dsimp only) | dsimp only [List.length_cons, List.length_nil, Nat.reduceAdd, Nat.zero_add, wipeD, List.map_cons, List.map_nil, List.set_cons_zero, List.set_cons_succ, List.getElem?_cons_zero, List.getElem?_cons_succ]))
  refine p_abs.mpr ?_
  (repeat (first | ((with_reducible first | refine p_k.mpr ?_ | refine p_v.mpr ?_ | refine p_cons.mpr ?_ | refine p_nil.mpr ?_ | refine p_callE0.mpr ?_ | refine p_bool2.mpr ?_ | refine p_bool1.mpr ?_ | refine p_cmp.mpr ?_ | refine p_op.mpr ?_ | refine p_consS.mpr ?_ | refine p_nilS.mpr ?_ | refine p_ret.mpr ?_ | refine p_set.mpr ?_ | refine p_ex.mpr ?_ | refine p_ifs.mpr ?_ | refine p_lst.mpr ?_ | refine p_tup.mpr ?_ | refine p_neg.mpr ?_ | refine p_not.mpr ?_ | refine p_ife.mpr ?_ | refine p_idx.mpr ?_ | refine p_gl.mpr ?_ | refine p_slice.mpr ?_ | refine p_onone.mpr ?_ | refine p_osome.mpr ?_ | refine p_rev.mpr ?_ | refine p_tupR.mpr ?_ | refine p_callEK.mpr ?_ | refine p_bi.mpr ?_ | refine p_isinE.mpr ?_ | refine p_meth.mpr ?_ | refine p_comp.mpr ?_ | refine p_sq.mpr ?_ | refine p_rng1.mpr ?_ | refine p_enm.mpr ?_ | refine p_zip.mpr ?_ | refine p_for.mpr ?_ | refine p_raise.mpr ?_ | refine p_pass.mpr ?_ | refine p_setI.mpr ?_ | refine p_kidx.mpr ?_ | refine p_getS_tup.mpr ?_ | refine p_seq_tup.mpr ?_ | refine p_seq_frz.mpr ?_ | refine p_len.mpr ?_ | refine p_all.mpr ?_ | refine p_tuple.mpr ?_ | refine p_sum.mpr ?_ | refine p_add.mpr ?_ | refine p_sub.mpr ?_ | refine p_mul.mpr ⟨?_, ?_⟩ | refine p_lt.mpr ?_ | refine p_ge.mpr ?_ | refine p_gt.mpr ?_ | refine p_intI.mpr ?_ | refine p_eqI.mpr ?_) <;> (try dsimp only [List.getElem?_cons_zero, List.getElem?_cons_succ, List.set_cons_zero, List.set_cons_succ, assignT, assignT.setAll, List.length_cons, List.length_nil, List.cons_append, List.nil_append, startD, List.map_cons, List.map_nil, List.replicate, List.append_nil])) | with_reducible refine ifTr ?_ | with_reducible refine ifFa ?_ | with_reducible refine ifTT ?_ | with_reducible refine ifFT ?_ | with_reducible refine ifTF ?_ | with_reducible refine ifFF ?_ | (rw [if_pos rfl]; dsimp only [assignT.setAll, List.set_cons_zero, List.set_cons_succ]) | (rw [atI0]; dsimp only) | (rw [atI1]; dsimp only) | dsimp only [List.length_cons, List.length_nil, Nat.reduceAdd, Nat.zero_add, wipeD, List.map_cons, List.map_nil, List.set_cons_zero, List.set_cons_succ, List.getElem?_cons_zero, List.getElem?_cons_succ]))
  refine ⟨sz (by decide), ?_⟩
  (repeat (first | ((with_reducible first | refine p_k.mpr ?_ | refine p_v.mpr ?_ | refine p_cons.mpr ?_ | refine p_nil.mpr ?_ | refine p_callE0.mpr ?_ | refine p_bool2.mpr ?_ | refine p_bool1.mpr ?_ | refine p_cmp.mpr ?_ | refine p_op.mpr ?_ | refine p_consS.mpr ?_ | refine p_nilS.mpr ?_ | refine p_ret.mpr ?_ | refine p_set.mpr ?_ | refine p_ex.mpr ?_ | refine p_ifs.mpr ?_ | refine p_lst.mpr ?_ | refine p_tup.mpr ?_ | refine p_neg.mpr ?_ | refine p_not.mpr ?_ | refine p_ife.mpr ?_ | refine p_idx.mpr ?_ | refine p_gl.mpr ?_ | refine p_slice.mpr ?_ | refine p_onone.mpr ?_ | refine p_osome.mpr ?_ | refine p_rev.mpr ?_ | refine p_tupR.mpr ?_ | refine p_callEK.mpr ?_ | refine p_bi.mpr ?_ | refine p_isinE.mpr ?_ | refine p_meth.mpr ?_ | refine p_comp.mpr ?_ | refine p_sq.mpr ?_ | refine p_rng1.mpr ?_ | refine p_enm.mpr ?_ | refine p_zip.mpr ?_ | refine p_for.mpr ?_ | refine p_raise.mpr ?_ | refine p_pass.mpr ?_ | refine p_setI.mpr ?_ | refine p_kidx.mpr ?_ | refine p_getS_tup.mpr ?_ | refine p_seq_tup.mpr ?_ | refine p_seq_frz.mpr ?_ | refine p_len.mpr ?_ | refine p_all.mpr ?_ | refine p_tuple.mpr ?_ | refine p_sum.mpr ?_ | refine p_add.mpr ?_ | refine p_sub.mpr ?_ | refine p_mul.mpr ⟨?_, ?_⟩ | refine p_lt.mpr ?_ | refine p_ge.mpr ?_ | refine p_gt.mpr ?_ | refine p_intI.mpr ?_ | refine p_eqI.mpr ?_) <;> (try dsimp only [List.getElem?_cons_zero, List.getElem?_cons_succ, List.set_cons_zero, List.set_cons_succ, assignT, assignT.setAll, List.length_cons, List.length_nil, List.cons_append, List.nil_append, startD, List.map_cons, List.map_nil, List.replicate, List.append_nil])) | with_reducible refine ifTr ?_ | with_reducible refine ifFa ?_ | with_reducible refine ifTT ?_ | with_reducible refine ifFT ?_ | with_reducible refine ifTF ?_ | with_reducible refine ifFF ?_ | (rw [if_pos rfl]; dsimp only [assignT.setAll, List.set_cons_zero, List.set_cons_succ]) | (rw [atI0]; dsimp only) | (rw [atI1]; dsimp only) | dsimp only [List.length_cons, List.length_nil, Nat.reduceAdd, Nat.zero_add, wipeD, List.map_cons, List.map_nil, List.set_cons_zero, List.set_cons_succ, List.getElem?_cons_zero, List.getElem?_cons_succ]))
  refine ⟨by decide, ?_⟩
  refine loop_go (fun i σ G' => G' = G ∧ ∃ (a b : Nat) (t : Option D), σ = [some (.int top), some (.int bottom), t, some (.int a), some (.int b)] ∧ Nat.gcd a b = Nat.gcd top.natAbs bottom.natAbs ∧ (i = 0 → b = bottom.natAbs) ∧ (0 < i → b ≤ a ∧ a * b * 2 ^ (i - 1) ≤ bottom.natAbs * bottom.natAbs)) ?_ ?_ ?_
  · refine ⟨rfl, top.natAbs, bottom.natAbs, none, ?_, rfl, fun _ => rfl, fun z => by omega⟩
    have z1 : (if top < 0 then -top else top) = (top.natAbs : Int) := by split <;> omega
    have z2 : bottom = (bottom.natAbs : Int) := by omega
    rw [z1, ← z2]
  · rintro i x σ G1 hi ⟨rfl, a, b, t, rfl, hg, h0, hI⟩
    refine ⟨rfl, ?_⟩
    dsimp only [assignT, List.set_cons_zero, List.set_cons_succ]
    (repeat (first | ((with_reducible first | refine p_k.mpr ?_ | refine p_v.mpr ?_ | refine p_cons.mpr ?_ | refine p_nil.mpr ?_ | refine p_callE0.mpr ?_ | refine p_bool2.mpr ?_ | refine p_bool1.mpr ?_ | refine p_cmp.mpr ?_ | refine p_op.mpr ?_ | refine p_consS.mpr ?_ | refine p_nilS.mpr ?_ | refine p_ret.mpr ?_ | refine p_set.mpr ?_ | refine p_ex.mpr ?_ | refine p_ifs.mpr ?_ | refine p_lst.mpr ?_ | refine p_tup.mpr ?_ | refine p_neg.mpr ?_ | refine p_not.mpr ?_ | refine p_ife.mpr ?_ | refine p_idx.mpr ?_ | refine p_gl.mpr ?_ | refine p_slice.mpr ?_ | refine p_onone.mpr ?_ | refine p_osome.mpr ?_ | refine p_rev.mpr ?_ | refine p_tupR.mpr ?_ | refine p_callEK.mpr ?_ | refine p_bi.mpr ?_ | refine p_isinE.mpr ?_ | refine p_meth.mpr ?_ | refine p_comp.mpr ?_ | refine p_sq.mpr ?_ | refine p_rng1.mpr ?_ | refine p_enm.mpr ?_ | refine p_zip.mpr ?_ | refine p_for.mpr ?_ | refine p_raise.mpr ?_ | refine p_pass.mpr ?_ | refine p_setI.mpr ?_ | refine p_kidx.mpr ?_ | refine p_getS_tup.mpr ?_ | refine p_seq_tup.mpr ?_ | refine p_seq_frz.mpr ?_ | refine p_len.mpr ?_ | refine p_all.mpr ?_ | refine p_tuple.mpr ?_ | refine p_sum.mpr ?_ | refine p_add.mpr ?_ | refine p_sub.mpr ?_ | refine p_mul.mpr ⟨?_, ?_⟩ | refine p_lt.mpr ?_ | refine p_ge.mpr ?_ | refine p_gt.mpr ?_ | refine p_intI.mpr ?_ | refine p_eqI.mpr ?_) <;> (try dsimp only [List.getElem?_cons_zero, List.getElem?_cons_succ, List.set_cons_zero, List.set_cons_succ, assignT, assignT.setAll, List.length_cons, List.length_nil, List.cons_append, List.nil_append, startD, List.map_cons, List.map_nil, List.replicate, List.append_nil])) | with_reducible refine ifTr ?_ | with_reducible refine ifFa ?_ | with_reducible refine ifTT ?_ | with_reducible refine ifFT ?_ | with_reducible refine ifTF ?_ | with_reducible refine ifFF ?_ | (rw [if_pos rfl]; dsimp only [assignT.setAll, List.set_cons_zero, List.set_cons_succ]) | (rw [atI0]; dsimp only) | (rw [atI1]; dsimp only) | dsimp only [List.length_cons, List.length_nil, Nat.reduceAdd, Nat.zero_add, wipeD, List.map_cons, List.map_nil, List.set_cons_zero, List.set_cons_succ, List.getElem?_cons_zero, List.getElem?_cons_succ]))
    by_cases hp : (0 : Int) < (b : Int)
    · rw [decide_eq_true hp]
      have hb' : 0 < b := by omega
      (repeat (first | ((with_reducible first | refine p_k.mpr ?_ | refine p_v.mpr ?_ | refine p_cons.mpr ?_ | refine p_nil.mpr ?_ | refine p_callE0.mpr ?_ | refine p_bool2.mpr ?_ | refine p_bool1.mpr ?_ | refine p_cmp.mpr ?_ | refine p_op.mpr ?_ | refine p_consS.mpr ?_ | refine p_nilS.mpr ?_ | refine p_ret.mpr ?_ | refine p_set.mpr ?_ | refine p_ex.mpr ?_ | refine p_ifs.mpr ?_ | refine p_lst.mpr ?_ | refine p_tup.mpr ?_ | refine p_neg.mpr ?_ | refine p_not.mpr ?_ | refine p_ife.mpr ?_ | refine p_idx.mpr ?_ | refine p_gl.mpr ?_ | refine p_slice.mpr ?_ | refine p_onone.mpr ?_ | refine p_osome.mpr ?_ | refine p_rev.mpr ?_ | refine p_tupR.mpr ?_ | refine p_callEK.mpr ?_ | refine p_bi.mpr ?_ | refine p_isinE.mpr ?_ | refine p_meth.mpr ?_ | refine p_comp.mpr ?_ | refine p_sq.mpr ?_ | refine p_rng1.mpr ?_ | refine p_enm.mpr ?_ | refine p_zip.mpr ?_ | refine p_for.mpr ?_ | refine p_raise.mpr ?_ | refine p_pass.mpr ?_ | refine p_setI.mpr ?_ | refine p_kidx.mpr ?_ | refine p_getS_tup.mpr ?_ | refine p_seq_tup.mpr ?_ | refine p_seq_frz.mpr ?_ | refine p_len.mpr ?_ | refine p_all.mpr ?_ | refine p_tuple.mpr ?_ | refine p_sum.mpr ?_ | refine p_add.mpr ?_ | refine p_sub.mpr ?_ | refine p_mul.mpr ⟨?_, ?_⟩ | refine p_lt.mpr ?_ | refine p_ge.mpr ?_ | refine p_gt.mpr ?_ | refine p_intI.mpr ?_ | refine p_eqI.mpr ?_) <;> (try dsimp only [List.getElem?_cons_zero, List.getElem?_cons_succ, List.set_cons_zero, List.set_cons_succ, assignT, assignT.setAll, List.length_cons, List.length_nil, List.cons_append, List.nil_append, startD, List.map_cons, List.map_nil, List.replicate, List.append_nil])) | with_reducible refine ifTr ?_ | with_reducible refine ifFa ?_ | with_reducible refine ifTT ?_ | with_reducible refine ifFT ?_ | with_reducible refine ifTF ?_ | with_reducible refine ifFF ?_ | (rw [if_pos rfl]; dsimp only [assignT.setAll, List.set_cons_zero, List.set_cons_succ]) | (rw [atI0]; dsimp only) | (rw [atI1]; dsimp only) | dsimp only [List.length_cons, List.length_nil, Nat.reduceAdd, Nat.zero_add, wipeD, List.map_cons, List.map_nil, List.set_cons_zero, List.set_cons_succ, List.getElem?_cons_zero, List.getElem?_cons_succ]))
      refine p_mod.mpr ⟨hp, ?_⟩
      (repeat (first | ((with_reducible first | refine p_k.mpr ?_ | refine p_v.mpr ?_ | refine p_cons.mpr ?_ | refine p_nil.mpr ?_ | refine p_callE0.mpr ?_ | refine p_bool2.mpr ?_ | refine p_bool1.mpr ?_ | refine p_cmp.mpr ?_ | refine p_op.mpr ?_ | refine p_consS.mpr ?_ | refine p_nilS.mpr ?_ | refine p_ret.mpr ?_ | refine p_set.mpr ?_ | refine p_ex.mpr ?_ | refine p_ifs.mpr ?_ | refine p_lst.mpr ?_ | refine p_tup.mpr ?_ | refine p_neg.mpr ?_ | refine p_not.mpr ?_ | refine p_ife.mpr ?_ | refine p_idx.mpr ?_ | refine p_gl.mpr ?_ | refine p_slice.mpr ?_ | refine p_onone.mpr ?_ | refine p_osome.mpr ?_ | refine p_rev.mpr ?_ | refine p_tupR.mpr ?_ | refine p_callEK.mpr ?_ | refine p_bi.mpr ?_ | refine p_isinE.mpr ?_ | refine p_meth.mpr ?_ | refine p_comp.mpr ?_ | refine p_sq.mpr ?_ | refine p_rng1.mpr ?_ | refine p_enm.mpr ?_ | refine p_zip.mpr ?_ | refine p_for.mpr ?_ | refine p_raise.mpr ?_ | refine p_pass.mpr ?_ | refine p_setI.mpr ?_ | refine p_kidx.mpr ?_ | refine p_getS_tup.mpr ?_ | refine p_seq_tup.mpr ?_ | refine p_seq_frz.mpr ?_ | refine p_len.mpr ?_ | refine p_all.mpr ?_ | refine p_tuple.mpr ?_ | refine p_sum.mpr ?_ | refine p_add.mpr ?_ | refine p_sub.mpr ?_ | refine p_mul.mpr ⟨?_, ?_⟩ | refine p_lt.mpr ?_ | refine p_ge.mpr ?_ | refine p_gt.mpr ?_ | refine p_intI.mpr ?_ | refine p_eqI.mpr ?_) <;> (try dsimp only [List.getElem?_cons_zero, List.getElem?_cons_succ, List.set_cons_zero, List.set_cons_succ, assignT, assignT.setAll, List.length_cons, List.length_nil, List.cons_append, List.nil_append, startD, List.map_cons, List.map_nil, List.replicate, List.append_nil])) | with_reducible refine ifTr ?_ | with_reducible refine ifFa ?_ | with_reducible refine ifTT ?_ | with_reducible refine ifFT ?_ | with_reducible refine ifTF ?_ | with_reducible refine ifFF ?_ | (rw [if_pos rfl]; dsimp only [assignT.setAll, List.set_cons_zero, List.set_cons_succ]) | (rw [atI0]; dsimp only) | (rw [atI1]; dsimp only) | dsimp only [List.length_cons, List.length_nil, Nat.reduceAdd, Nat.zero_add, wipeD, List.map_cons, List.map_nil, List.set_cons_zero, List.set_cons_succ, List.getElem?_cons_zero, List.getElem?_cons_succ]))
      refine ⟨sz (by decide), ?_⟩
      (repeat (first | ((with_reducible first | refine p_k.mpr ?_ | refine p_v.mpr ?_ | refine p_cons.mpr ?_ | refine p_nil.mpr ?_ | refine p_callE0.mpr ?_ | refine p_bool2.mpr ?_ | refine p_bool1.mpr ?_ | refine p_cmp.mpr ?_ | refine p_op.mpr ?_ | refine p_consS.mpr ?_ | refine p_nilS.mpr ?_ | refine p_ret.mpr ?_ | refine p_set.mpr ?_ | refine p_ex.mpr ?_ | refine p_ifs.mpr ?_ | refine p_lst.mpr ?_ | refine p_tup.mpr ?_ | refine p_neg.mpr ?_ | refine p_not.mpr ?_ | refine p_ife.mpr ?_ | refine p_idx.mpr ?_ | refine p_gl.mpr ?_ | refine p_slice.mpr ?_ | refine p_onone.mpr ?_ | refine p_osome.mpr ?_ | refine p_rev.mpr ?_ | refine p_tupR.mpr ?_ | refine p_callEK.mpr ?_ | refine p_bi.mpr ?_ | refine p_isinE.mpr ?_ | refine p_meth.mpr ?_ | refine p_comp.mpr ?_ | refine p_sq.mpr ?_ | refine p_rng1.mpr ?_ | refine p_enm.mpr ?_ | refine p_zip.mpr ?_ | refine p_for.mpr ?_ | refine p_raise.mpr ?_ | refine p_pass.mpr ?_ | refine p_setI.mpr ?_ | refine p_kidx.mpr ?_ | refine p_getS_tup.mpr ?_ | refine p_seq_tup.mpr ?_ | refine p_seq_frz.mpr ?_ | refine p_len.mpr ?_ | refine p_all.mpr ?_ | refine p_tuple.mpr ?_ | refine p_sum.mpr ?_ | refine p_add.mpr ?_ | refine p_sub.mpr ?_ | refine p_mul.mpr ⟨?_, ?_⟩ | refine p_lt.mpr ?_ | refine p_ge.mpr ?_ | refine p_gt.mpr ?_ | refine p_intI.mpr ?_ | refine p_eqI.mpr ?_) <;> (try dsimp only [List.getElem?_cons_zero, List.getElem?_cons_succ, List.set_cons_zero, List.set_cons_succ, assignT, assignT.setAll, List.length_cons, List.length_nil, List.cons_append, List.nil_append, startD, List.map_cons, List.map_nil, List.replicate, List.append_nil])) | with_reducible refine ifTr ?_ | with_reducible refine ifFa ?_ | with_reducible refine ifTT ?_ | with_reducible refine ifFT ?_ | with_reducible refine ifTF ?_ | with_reducible refine ifFF ?_ | (rw [if_pos rfl]; dsimp only [assignT.setAll, List.set_cons_zero, List.set_cons_succ]) | (rw [atI0]; dsimp only) | (rw [atI1]; dsimp only) | dsimp only [List.length_cons, List.length_nil, Nat.reduceAdd, Nat.zero_add, wipeD, List.map_cons, List.map_nil, List.set_cons_zero, List.set_cons_succ, List.getElem?_cons_zero, List.getElem?_cons_succ]))
      refine ⟨rfl, b, a % b, some x, rfl, ?_, fun z => by omega, fun _ => ?_⟩
      · rw [← hg, Nat.gcd_comm a b, Nat.gcd_rec b a, Nat.gcd_comm]
      · exact euclid_step hb' h0 hI
    · rw [decide_eq_false hp]
      (repeat (first | ((with_reducible first | refine p_k.mpr ?_ | refine p_v.mpr ?_ | refine p_cons.mpr ?_ | refine p_nil.mpr ?_ | refine p_callE0.mpr ?_ | refine p_bool2.mpr ?_ | refine p_bool1.mpr ?_ | refine p_cmp.mpr ?_ | refine p_op.mpr ?_ | refine p_consS.mpr ?_ | refine p_nilS.mpr ?_ | refine p_ret.mpr ?_ | refine p_set.mpr ?_ | refine p_ex.mpr ?_ | refine p_ifs.mpr ?_ | refine p_lst.mpr ?_ | refine p_tup.mpr ?_ | refine p_neg.mpr ?_ | refine p_not.mpr ?_ | refine p_ife.mpr ?_ | refine p_idx.mpr ?_ | refine p_gl.mpr ?_ | refine p_slice.mpr ?_ | refine p_onone.mpr ?_ | refine p_osome.mpr ?_ | refine p_rev.mpr ?_ | refine p_tupR.mpr ?_ | refine p_callEK.mpr ?_ | refine p_bi.mpr ?_ | refine p_isinE.mpr ?_ | refine p_meth.mpr ?_ | refine p_comp.mpr ?_ | refine p_sq.mpr ?_ | refine p_rng1.mpr ?_ | refine p_enm.mpr ?_ | refine p_zip.mpr ?_ | refine p_for.mpr ?_ | refine p_raise.mpr ?_ | refine p_pass.mpr ?_ | refine p_setI.mpr ?_ | refine p_kidx.mpr ?_ | refine p_getS_tup.mpr ?_ | refine p_seq_tup.mpr ?_ | refine p_seq_frz.mpr ?_ | refine p_len.mpr ?_ | refine p_all.mpr ?_ | refine p_tuple.mpr ?_ | refine p_sum.mpr ?_ | refine p_add.mpr ?_ | refine p_sub.mpr ?_ | refine p_mul.mpr ⟨?_, ?_⟩ | refine p_lt.mpr ?_ | refine p_ge.mpr ?_ | refine p_gt.mpr ?_ | refine p_intI.mpr ?_ | refine p_eqI.mpr ?_) <;> (try dsimp only [List.getElem?_cons_zero, List.getElem?_cons_succ, List.set_cons_zero, List.set_cons_succ, assignT, assignT.setAll, List.length_cons, List.length_nil, List.cons_append, List.nil_append, startD, List.map_cons, List.map_nil, List.replicate, List.append_nil])) | with_reducible refine ifTr ?_ | with_reducible refine ifFa ?_ | with_reducible refine ifTT ?_ | with_reducible refine ifFT ?_ | with_reducible refine ifTF ?_ | with_reducible refine ifFF ?_ | (rw [if_pos rfl]; dsimp only [assignT.setAll, List.set_cons_zero, List.set_cons_succ]) | (rw [atI0]; dsimp only) | (rw [atI1]; dsimp only) | dsimp only [List.length_cons, List.length_nil, Nat.reduceAdd, Nat.zero_add, wipeD, List.map_cons, List.map_nil, List.set_cons_zero, List.set_cons_succ, List.getElem?_cons_zero, List.getElem?_cons_succ]))
      have hb' : b = 0 := by omega
      subst hb'
      refine ⟨rfl, a, 0, some x, rfl, hg, fun z => by omega, fun _ => ⟨Nat.zero_le _, by simp⟩⟩
  · rintro σ G1 ⟨rfl, a, b, t, rfl, hg, h0, hI⟩
    refine ⟨rfl, ?_⟩
    rw [rng_len] at hI
    obtain ⟨i1, i2⟩ := hI (by decide)
    have bz : b = 0 := by
      by_cases hz : b = 0
      · exact hz
      · exfalso
        have h1 : 1 ≤ a * b := Nat.mul_pos (by omega) (by omega)
        have h2 : bottom.natAbs * bottom.natAbs ≤ 2 ^ 31 * 2 ^ 31 := Nat.mul_le_mul (by omega) (by omega)
        have h3 : 1 * 2 ^ 499 ≤ a * b * 2 ^ 499 := Nat.mul_le_mul_right _ h1
        have h4 : a * b * 2 ^ 499 ≤ bottom.natAbs * bottom.natAbs := i2
        have h5 : (2 : Nat) ^ 31 * 2 ^ 31 < 2 ^ 499 := by rw [← Nat.pow_add]; exact Nat.pow_lt_pow_right (by decide) (by decide)
        omega
    subst bz
    rw [Nat.gcd_zero_right] at hg
    subst hg
    have fd : fitsD (Nat.gcd top.natAbs bottom.natAbs : Int) := fitsD_small (by omega)
    (repeat (first | ((with_reducible first | refine p_k.mpr ?_ | refine p_v.mpr ?_ | refine p_cons.mpr ?_ | refine p_nil.mpr ?_ | refine p_callE0.mpr ?_ | refine p_bool2.mpr ?_ | refine p_bool1.mpr ?_ | refine p_cmp.mpr ?_ | refine p_op.mpr ?_ | refine p_consS.mpr ?_ | refine p_nilS.mpr ?_ | refine p_ret.mpr ?_ | refine p_set.mpr ?_ | refine p_ex.mpr ?_ | refine p_ifs.mpr ?_ | refine p_lst.mpr ?_ | refine p_tup.mpr ?_ | refine p_neg.mpr ?_ | refine p_not.mpr ?_ | refine p_ife.mpr ?_ | refine p_idx.mpr ?_ | refine p_gl.mpr ?_ | refine p_slice.mpr ?_ | refine p_onone.mpr ?_ | refine p_osome.mpr ?_ | refine p_rev.mpr ?_ | refine p_tupR.mpr ?_ | refine p_callEK.mpr ?_ | refine p_bi.mpr ?_ | refine p_isinE.mpr ?_ | refine p_meth.mpr ?_ | refine p_comp.mpr ?_ | refine p_sq.mpr ?_ | refine p_rng1.mpr ?_ | refine p_enm.mpr ?_ | refine p_zip.mpr ?_ | refine p_for.mpr ?_ | refine p_raise.mpr ?_ | refine p_pass.mpr ?_ | refine p_setI.mpr ?_ | refine p_kidx.mpr ?_ | refine p_getS_tup.mpr ?_ | refine p_seq_tup.mpr ?_ | refine p_seq_frz.mpr ?_ | refine p_len.mpr ?_ | refine p_all.mpr ?_ | refine p_tuple.mpr ?_ | refine p_sum.mpr ?_ | refine p_add.mpr ?_ | refine p_sub.mpr ?_ | refine p_mul.mpr ⟨?_, ?_⟩ | refine p_lt.mpr ?_ | refine p_ge.mpr ?_ | refine p_gt.mpr ?_ | refine p_intI.mpr ?_ | refine p_eqI.mpr ?_) <;> (try dsimp only [List.getElem?_cons_zero, List.getElem?_cons_succ, List.set_cons_zero, List.set_cons_succ, assignT, assignT.setAll, List.length_cons, List.length_nil, List.cons_append, List.nil_append, startD, List.map_cons, List.map_nil, List.replicate, List.append_nil])) | with_reducible refine ifTr ?_ | with_reducible refine ifFa ?_ | with_reducible refine ifTT ?_ | with_reducible refine ifFT ?_ | with_reducible refine ifTF ?_ | with_reducible refine ifFF ?_ | (rw [if_pos rfl]; dsimp only [assignT.setAll, List.set_cons_zero, List.set_cons_succ]) | (rw [atI0]; dsimp only) | (rw [atI1]; dsimp only) | dsimp only [List.length_cons, List.length_nil, Nat.reduceAdd, Nat.zero_add, wipeD, List.map_cons, List.map_nil, List.set_cons_zero, List.set_cons_succ, List.getElem?_cons_zero, List.getElem?_cons_succ]))
    refine p_fdiv.mpr ⟨⟨by omega, fd⟩, ?_⟩
    (repeat (first | ((with_reducible first | refine p_k.mpr ?_ | refine p_v.mpr ?_ | refine p_cons.mpr ?_ | refine p_nil.mpr ?_ | refine p_callE0.mpr ?_ | refine p_bool2.mpr ?_ | refine p_bool1.mpr ?_ | refine p_cmp.mpr ?_ | refine p_op.mpr ?_ | refine p_consS.mpr ?_ | refine p_nilS.mpr ?_ | refine p_ret.mpr ?_ | refine p_set.mpr ?_ | refine p_ex.mpr ?_ | refine p_ifs.mpr ?_ | refine p_lst.mpr ?_ | refine p_tup.mpr ?_ | refine p_neg.mpr ?_ | refine p_not.mpr ?_ | refine p_ife.mpr ?_ | refine p_idx.mpr ?_ | refine p_gl.mpr ?_ | refine p_slice.mpr ?_ | refine p_onone.mpr ?_ | refine p_osome.mpr ?_ | refine p_rev.mpr ?_ | refine p_tupR.mpr ?_ | refine p_callEK.mpr ?_ | refine p_bi.mpr ?_ | refine p_isinE.mpr ?_ | refine p_meth.mpr ?_ | refine p_comp.mpr ?_ | refine p_sq.mpr ?_ | refine p_rng1.mpr ?_ | refine p_enm.mpr ?_ | refine p_zip.mpr ?_ | refine p_for.mpr ?_ | refine p_raise.mpr ?_ | refine p_pass.mpr ?_ | refine p_setI.mpr ?_ | refine p_kidx.mpr ?_ | refine p_getS_tup.mpr ?_ | refine p_seq_tup.mpr ?_ | refine p_seq_frz.mpr ?_ | refine p_len.mpr ?_ | refine p_all.mpr ?_ | refine p_tuple.mpr ?_ | refine p_sum.mpr ?_ | refine p_add.mpr ?_ | refine p_sub.mpr ?_ | refine p_mul.mpr ⟨?_, ?_⟩ | refine p_lt.mpr ?_ | refine p_ge.mpr ?_ | refine p_gt.mpr ?_ | refine p_intI.mpr ?_ | refine p_eqI.mpr ?_) <;> (try dsimp only [List.getElem?_cons_zero, List.getElem?_cons_succ, List.set_cons_zero, List.set_cons_succ, assignT, assignT.setAll, List.length_cons, List.length_nil, List.cons_append, List.nil_append, startD, List.map_cons, List.map_nil, List.replicate, List.append_nil])) | with_reducible refine ifTr ?_ | with_reducible refine ifFa ?_ | with_reducible refine ifTT ?_ | with_reducible refine ifFT ?_ | with_reducible refine ifTF ?_ | with_reducible refine ifFF ?_ | (rw [if_pos rfl]; dsimp only [assignT.setAll, List.set_cons_zero, List.set_cons_succ]) | (rw [atI0]; dsimp only) | (rw [atI1]; dsimp only) | dsimp only [List.length_cons, List.length_nil, Nat.reduceAdd, Nat.zero_add, wipeD, List.map_cons, List.map_nil, List.set_cons_zero, List.set_cons_succ, List.getElem?_cons_zero, List.getElem?_cons_succ]))
    refine p_fdiv.mpr ⟨⟨by omega, fd⟩, ?_⟩
    (repeat (first | ((with_reducible first | refine p_k.mpr ?_ | refine p_v.mpr ?_ | refine p_cons.mpr ?_ | refine p_nil.mpr ?_ | refine p_callE0.mpr ?_ | refine p_bool2.mpr ?_ | refine p_bool1.mpr ?_ | refine p_cmp.mpr ?_ | refine p_op.mpr ?_ | refine p_consS.mpr ?_ | refine p_nilS.mpr ?_ | refine p_ret.mpr ?_ | refine p_set.mpr ?_ | refine p_ex.mpr ?_ | refine p_ifs.mpr ?_ | refine p_lst.mpr ?_ | refine p_tup.mpr ?_ | refine p_neg.mpr ?_ | refine p_not.mpr ?_ | refine p_ife.mpr ?_ | refine p_idx.mpr ?_ | refine p_gl.mpr ?_ | refine p_slice.mpr ?_ | refine p_onone.mpr ?_ | refine p_osome.mpr ?_ | refine p_rev.mpr ?_ | refine p_tupR.mpr ?_ | refine p_callEK.mpr ?_ | refine p_bi.mpr ?_ | refine p_isinE.mpr ?_ | refine p_meth.mpr ?_ | refine p_comp.mpr ?_ | refine p_sq.mpr ?_ | refine p_rng1.mpr ?_ | refine p_enm.mpr ?_ | refine p_zip.mpr ?_ | refine p_for.mpr ?_ | refine p_raise.mpr ?_ | refine p_pass.mpr ?_ | refine p_setI.mpr ?_ | refine p_kidx.mpr ?_ | refine p_getS_tup.mpr ?_ | refine p_seq_tup.mpr ?_ | refine p_seq_frz.mpr ?_ | refine p_len.mpr ?_ | refine p_all.mpr ?_ | refine p_tuple.mpr ?_ | refine p_sum.mpr ?_ | refine p_add.mpr ?_ | refine p_sub.mpr ?_ | refine p_mul.mpr ⟨?_, ?_⟩ | refine p_lt.mpr ?_ | refine p_ge.mpr ?_ | refine p_gt.mpr ?_ | refine p_intI.mpr ?_ | refine p_eqI.mpr ?_) <;> (try dsimp only [List.getElem?_cons_zero, List.getElem?_cons_succ, List.set_cons_zero, List.set_cons_succ, assignT, assignT.setAll, List.length_cons, List.length_nil, List.cons_append, List.nil_append, startD, List.map_cons, List.map_nil, List.replicate, List.append_nil])) | with_reducible refine ifTr ?_ | with_reducible refine ifFa ?_ | with_reducible refine ifTT ?_ | with_reducible refine ifFT ?_ | with_reducible refine ifTF ?_ | with_reducible refine ifFF ?_ | (rw [if_pos rfl]; dsimp only [assignT.setAll, List.set_cons_zero, List.set_cons_succ]) | (rw [atI0]; dsimp only) | (rw [atI1]; dsimp only) | dsimp only [List.length_cons, List.length_nil, Nat.reduceAdd, Nat.zero_add, wipeD, List.map_cons, List.map_nil, List.set_cons_zero, List.set_cons_succ, List.getElem?_cons_zero, List.getElem?_cons_succ]))
    refine ⟨sz (by decide), ?_⟩
    rw [e1, e2]
    exact h k m hn hx
end
end OC

local macro_rules | `(tactic| walk_at "oc hd") => `(tactic| repeat (first | ((with_reducible first | refine OC.p_k.mpr ?_ | refine OC.p_v.mpr ?_ | refine OC.p_cons.mpr ?_ | refine OC.p_nil.mpr ?_ | refine OC.p_callE0.mpr ?_ | refine OC.p_bool2.mpr ?_ | refine OC.p_bool1.mpr ?_ | refine OC.p_cmp.mpr ?_ | refine OC.p_op.mpr ?_ | refine OC.p_consS.mpr ?_ | refine OC.p_nilS.mpr ?_ | refine OC.p_ret.mpr ?_ | refine OC.p_set.mpr ?_ | refine OC.p_ex.mpr ?_ | refine OC.p_ifs.mpr ?_ | refine OC.p_lst.mpr ?_ | refine OC.p_tup.mpr ?_ | refine OC.p_neg.mpr ?_ | refine OC.p_not.mpr ?_ | refine OC.p_ife.mpr ?_ | refine OC.p_idx.mpr ?_ | refine OC.p_gl.mpr ?_ | refine OC.p_slice.mpr ?_ | refine OC.p_onone.mpr ?_ | refine OC.p_osome.mpr ?_ | refine OC.p_rev.mpr ?_ | refine OC.p_tupR.mpr ?_ | refine OC.p_callEK.mpr ?_ | refine OC.p_bi.mpr ?_ | refine OC.p_isinE.mpr ?_ | refine OC.p_meth.mpr ?_ | refine OC.p_comp.mpr ?_ | refine OC.p_sq.mpr ?_ | refine OC.p_rng1.mpr ?_ | refine OC.p_enm.mpr ?_ | refine OC.p_zip.mpr ?_ | refine OC.p_for.mpr ?_ | refine OC.p_raise.mpr ?_ | refine OC.p_pass.mpr ?_ | refine OC.p_setI.mpr ?_ | refine OC.p_kidx.mpr ?_ | refine OC.p_getS_tup.mpr ?_ | refine OC.p_seq_tup.mpr ?_ | refine OC.p_seq_frz.mpr ?_ | refine OC.p_len.mpr ?_ | refine OC.p_all.mpr ?_ | refine OC.p_tuple.mpr ?_ | refine OC.p_sum.mpr ?_ | refine OC.p_add.mpr ?_ | refine OC.p_sub.mpr ?_ | refine OC.p_mul.mpr ⟨?_, ?_⟩ | refine OC.p_lt.mpr ?_ | refine OC.p_ge.mpr ?_ | refine OC.p_gt.mpr ?_ | refine OC.p_intI.mpr ?_ | refine OC.p_eqI.mpr ?_) <;> (try dsimp only [List.getElem?_cons_zero, List.getElem?_cons_succ, List.set_cons_zero, List.set_cons_succ, OC.assignT, OC.assignT.setAll, List.length_cons, List.length_nil, List.cons_append, List.nil_append, OC.startD, List.map_cons, List.map_nil, List.replicate, List.append_nil])) | with_reducible refine OC.ifTr ?_ | with_reducible refine OC.ifFa ?_ | with_reducible refine OC.ifTT ?_ | with_reducible refine OC.ifFT ?_ | with_reducible refine OC.ifTF ?_ | with_reducible refine OC.ifFF ?_ | (rw [if_pos rfl]; dsimp only [OC.assignT.setAll, List.set_cons_zero, List.set_cons_succ]) | (rw [OC.atI0]; dsimp only) | (rw [OC.atI1]; dsimp only) | dsimp only [List.length_cons, List.length_nil, Nat.reduceAdd, Nat.zero_add, OC.wipeD, List.map_cons, List.map_nil, List.set_cons_zero, List.set_cons_succ, List.getElem?_cons_zero, List.getElem?_cons_succ]))
local macro_rules | `(tactic| walk_at "oc stt") => `(tactic| simp only [OC.startD, List.map_cons, List.map_nil, List.length_cons, List.length_nil, Nat.reduceAdd, Nat.reduceSub, Nat.zero_add, List.replicate, List.cons_append, List.nil_append, List.append_nil])
local macro_rules | `(tactic| walk_at "oc hdc") => `(tactic| repeat (first | with_reducible refine OC.ifTr ?_ | with_reducible refine OC.ifFa ?_ | with_reducible refine OC.ifTT ?_ | with_reducible refine OC.ifFT ?_ | with_reducible refine OC.ifTF ?_ | with_reducible refine OC.ifFF ?_ | dsimp only))

namespace OC
open PySem PySem.Spec PyProof.Rows L2
variable {P : Prg} (H : HB P)
section
variable {n : Nat} {G : GH} {ok : D → GH → Prop} {ex : Str → Option D → GH → Prop}
theorem get_app {t : GH} {i : Nat} {o : GO} (h : G[i]? = some o) : (G ++ t)[i]? = some o := by rw [List.getElem?_append_left (lt_of_get h)]; exact h
theorem p_turn0 {c : Calls} {elt : IE} {t : IT} {σ : Env'} {x : D} {okk : Option D → GH → Prop} : Post (turnC c elt t .none σ x) G okk ex ↔ (match assignT t x σ with | none => False | some σ2 => Post (den c elt σ2) G (fun y G1 => okk (some y) G1) ex) := by
  unfold turnC
  cases assignT t x σ with
  | none => exact Iff.rfl
  | some σ2 => simp only [p_bind, p_mret]
theorem p_turn1 {c : Calls} {elt e : IE} {t : IT} {σ : Env'} {x : D} {okk : Option D → GH → Prop} : Post (turnC c elt t (.some e) σ x) G okk ex ↔ (match assignT t x σ with | none => False | some σ2 => Post (den c e σ2) G (fun b G1 => match b with | .bl v => if v = true then Post (den c elt σ2) G1 (fun y G2 => okk (some y) G2) ex else okk none G1 | _ => False) ex) := by
  unfold turnC
  cases assignT t x σ with
  | none => exact Iff.rfl
  | some σ2 =>
    simp only
    rw [p_bind]
    refine p_congr fun b G1 => ?_
    cases b with
    | bl v =>
      cases v with
      | true => simp only [p_bind, p_mret, if_true]
      | false => simp only [p_mret]; simp
    | _ => exact Iff.rfl
theorem set_last {x y : GO} : (G ++ [x]).set G.length y = G ++ [y] := by
  rw [List.set_append_right _ _ (Nat.le_refl _)]
  simp
/-- a comprehension whose turns leave all as it is -/
theorem comp_pure {gs : Guard} {turn : D → M (Option D)} {xs : List D} (f : D → Option D) {okk : Unit → GH → Prop}
    (hturn : ∀ x ∈ xs, ∀ (acc : List D) (ok' : Option D → GH → Prop), ok' (f x) (G ++ [.lst acc]) → Post (turn x) (G ++ [.lst acc]) ok' noex) (hgs : ∀ acc, chkG gs (G ++ [.lst acc]) = true) (hlen : xs.length ≤ 1000)
    (h : okk () (G ++ [.lst (xs.filterMap f)])) : Post (compG gs G.length turn xs) (G ++ [.lst []]) okk ex := by
  refine comp_go (fun i acc G' => G' = G ++ [.lst acc] ∧ acc = (xs.take i).filterMap f) ⟨rfl, by simp⟩ get1 ?_ ?_
  · rintro i x acc G' hi hl ⟨rfl, ha⟩
    refine ⟨hgs _, hturn x (List.mem_of_getElem? hi) acc _ ?_⟩
    have e : xs.take (i + 1) = xs.take i ++ [x] := by rw [List.take_add_one, hi]; rfl
    have hal : acc.length ≤ xs.length := by
      rw [ha]; exact Nat.le_trans (List.length_filterMap_le _ _) (by simp; omega)
    cases hf : f x with
    | none => exact ⟨hl, rfl, by rw [ha, e, List.filterMap_append, List.filterMap_cons_none hf]; simp⟩
    | some d =>
      refine ⟨hl, ?_, set_last, by rw [ha, e, List.filterMap_append, List.filterMap_cons_some hf]; simp⟩
      rw [sizeLine_eq]; omega
  · rintro acc G' hl ⟨rfl, ha⟩
    rw [List.take_length] at ha
    subst ha
    exact ⟨hgs _, h⟩
theorem chkG1 {p : Nat} {xs : List D} (h : G[p]? = some (.lst xs)) : chkG [(p, xs)] G = true := by
  unfold chkG; simp [h]
/-- numbers -/
theorem p_notin {a b : D} (h : Post (getS b) G (fun ys G1 => (pureD a = true ∧ pureDs ys = true ∧ max (deps ys) (dep a) ≤ 63) ∧ ok (.bl (!(ys.any fun y => eqv y a))) G1) ex) : Post (cmpD .notin a b) G ok ex := p_in (o := false) (by simpa using h)
def AllN (B : Int) (xs : List D) : Prop := ∀ x ∈ xs, ∃ a b, x = nD a b ∧ Nm B a b
theorem AllN.pure {B : Int} : ∀ {xs : List D}, AllN B xs → pureDs xs = true
  | [], _ => rfl
  | x :: xs, h => by
    obtain ⟨a, b, rfl, _⟩ := h _ List.mem_cons_self
    show (pureD (nD a b) && pureDs xs) = true
    rw [AllN.pure fun y hy => h y (List.mem_cons_of_mem _ hy)]; rfl
def ltD : D → D → Bool
  | .tup [.int a, .int b], .tup [.int c, .int d] => decide (a * d < c * b)
  | _, _ => false
def ins (found : List D) (x : D) : List D :=
  if (found.any fun y => eqv y x) = true then found else
    cutD found none (some ((found.filter fun o => ltD o x).length : Int)) ++ [x] ++ cutD found (some ((found.filter fun o => ltD o x).length : Int)) none
def srt (xs : List D) : List D := xs.foldl ins []
theorem srt_snoc {xs : List D} {x : D} : srt (xs ++ [x]) = ins (srt xs) x := by unfold srt; rw [List.foldl_append]; rfl
theorem cut_len {xs : List D} {lo hi : Option Int} : (cutD xs lo hi).length ≤ xs.length := by
  unfold cutD
  rw [List.length_take, List.length_drop]; omega
theorem cut_mem {xs : List D} {lo hi : Option Int} {x : D} (h : x ∈ cutD xs lo hi) : x ∈ xs := List.mem_of_mem_drop (List.mem_of_mem_take h)
theorem sIx_nat {n k : Nat} {d : Nat} (h : k ≤ n) : HT.sIx n d (some (k : Int)) = k := by
  simp only [HT.sIx]
  first | omega | (split <;> omega) | simp [h]
theorem ins_mem {B : Int} {found : List D} {x : D} (h : AllN B found) (hx : ∃ a b, x = nD a b ∧ Nm B a b) : AllN B (ins found x) := by
  intro y hy
  unfold ins at hy
  split at hy
  · exact h y hy
  · rcases List.mem_append.mp hy with hy | hy
    · rcases List.mem_append.mp hy with hy | hy
      · exact h y (cut_mem hy)
      · rw [List.mem_singleton.mp hy]; exact hx
    · exact h y (cut_mem hy)
theorem cut_split {xs : List D} {k : Nat} (h : k ≤ xs.length) : cutD xs none (some (k : Int)) = xs.take k ∧ cutD xs (some (k : Int)) none = xs.drop k := by
  unfold cutD
  rw [sIx_nat h, sIx_nat h]
  constructor
  · show (xs.drop 0).take (k - 0) = _
    simp
  · show (xs.drop k).take (xs.length - k) = _
    rw [List.take_of_length_le (by simp)]
theorem ins_len {found : List D} {x : D} : (ins found x).length ≤ found.length + 1 ∧ 0 < (ins found x).length := by
  unfold ins
  have hk : (found.filter fun o => ltD o x).length ≤ found.length := List.length_filter_le _ _
  split
  · rename_i h
    refine ⟨by omega, ?_⟩
    cases found with
    | nil => simp at h
    | cons a l => simp
  · obtain ⟨e1, e2⟩ := cut_split hk
    rw [e1, e2]
    simp only [List.length_append, List.length_take, List.length_drop, List.length_cons, List.length_nil]
    omega
theorem srt_all {B : Int} : ∀ (xs : List D) (acc : List D), AllN B xs → AllN B acc → AllN B (xs.foldl ins acc)
  | [], acc, _, h => h
  | x :: xs, acc, h, ha => srt_all xs (ins acc x) (fun y hy => h y (List.mem_cons_of_mem _ hy)) (ins_mem ha (h x List.mem_cons_self))
theorem srt_len : ∀ (xs : List D) (acc : List D), (xs.foldl ins acc).length ≤ acc.length + xs.length
  | [], acc => by simp
  | x :: xs, acc => by
    have := srt_len xs (ins acc x)
    have := (ins_len (found := acc) (x := x)).1
    simp only [List.foldl_cons, List.length_cons]; omega
theorem filterMap_if (q : D → Bool) : ∀ l : List D, l.filterMap (fun o => if q o = true then some o else none) = l.filter q
  | [] => rfl
  | o :: l => by
    cases h : q o with
    | true => rw [List.filterMap_cons_some (b := o) (by simp [h]), List.filter_cons_of_pos h, filterMap_if q l]
    | false => rw [List.filterMap_cons_none (by simp [h]), List.filter_cons_of_neg (by simp [h]), filterMap_if q l]
theorem dep_num {a b : Int} : dep (nD a b) = 1 := rfl
theorem Nm.small {B a b : Int} (h : Nm B a b) (hB : B < 2 ^ 63) : b.natAbs < 2 ^ 63 := by
  have := h.le; have := h.pos; omega
theorem cons_dep {B : Int} {xs : List D} (h : AllN B xs) : deps xs ≤ 1 := by
  induction xs with
  | nil => exact Nat.zero_le _
  | cons x xs ih =>
    obtain ⟨a, b, rfl, _⟩ := h _ List.mem_cons_self
    have := ih fun y hy => h y (List.mem_cons_of_mem _ hy)
    show max (dep (nD a b)) (deps xs) ≤ 1
    rw [dep_num]; omega
include H in
theorem s_sorted {B : Int} (hB : B < 2 ^ 63) {p : Nat} {xs : List D} (hp : G[p]? = some (.lst xs)) (hx : AllN B xs) (hl : xs.length ≤ 500) (h : ∀ t r, (G ++ t)[r]? = some (.lst (srt xs)) → G.length ≤ r → ok (.loc r) (G ++ t)) :
    Post (callN P (n + 2) 22 [.loc p]) G ok ex := by
  rw [p_call (fn := f__law_sorted) H.i22 rfl]
  unfold f__law_sorted
  walk_at "oc stt"
  walk_at "oc hd"
  refine ⟨sz (by decide), ?_⟩
  walk_at "oc hd"
  refine (p_seq_loc (get_app hp)).mpr ?_
  dsimp only
  refine loop_go (fun i σ G' => ∃ (t : GH) (r : Nat) (u v w : Option D), G' = G ++ t ∧ σ = [some (.loc p), some (.loc r), u, v, w] ∧ G'[r]? = some (.lst (srt (xs.take i))) ∧ G.length ≤ r) ⟨[.lst []], G.length, none, none, none, rfl, rfl, get1, Nat.le_refl _⟩ ?_ ?_
  · rintro i x σ G' hi ⟨t, r, u, v, w, rfl, rfl, hr, hrl⟩
    refine ⟨chkG1 (get_app hp), ?_⟩
    dsimp only [assignT, List.set_cons_zero, List.set_cons_succ]
    have e : xs.take (i + 1) = xs.take i ++ [x] := by rw [List.take_add_one, hi]; rfl
    have hfa : AllN B (srt (xs.take i)) := srt_all _ _ (fun y hy => hx y (List.mem_of_mem_take hy)) (by simp [AllN])
    have hfl : (srt (xs.take i)).length ≤ 500 := by
      have := srt_len (xs.take i) []
      simp at this
      unfold srt; omega
    obtain ⟨a, b, rfl, hn⟩ := hx x (List.mem_of_getElem? hi)
    generalize hF : srt (xs.take i) = found at *
    have fin : srt (xs.take (i + 1)) = ins found (nD a b) := by rw [e, srt_snoc, hF]
    walk_at "oc hd"
    have hcd := cons_dep hfa
    refine p_notin ((p_getS_loc hr).mpr ⟨⟨rfl, hfa.pure, by rw [dep_num]; omega⟩, ?_⟩)
    cases hin : (found.any fun y => eqv y (nD a b)) with
    | true =>
      simp only [Bool.not_true]
      walk_at "oc hd"
      refine ⟨t, r, some (nD a b), v, w, by rfl, by rfl, ?_, hrl⟩
      rw [fin]
      unfold ins
      rw [if_pos hin]; exact hr
    | false =>
      simp only [Bool.not_false]
      walk_at "oc hd"
      refine (p_seq_loc hr).mpr ?_
      dsimp only
      refine comp_pure (fun o => if ltD o (nD a b) = true then some o else none) ?_ (fun acc => chkG1 (get_app hr)) (by omega) ?_
      · intro o ho acc ok' hok
        obtain ⟨c, d, rfl, hm⟩ := hfa o ho
        refine p_turn1.mpr ?_
        dsimp only [wipeD, List.map_cons, List.map_nil, assignT, List.set_cons_zero, List.set_cons_succ]
        walk_at "oc hd"
        refine s_lahead H (hm.small hB) (hn.small hB) ?_
        have e2 : ltD (nD c d) (nD a b) = decide (c * b < a * d) := rfl
        rw [e2] at hok
        by_cases hc : c * b < a * d
        · rw [decide_eq_true hc] at hok ⊢
          rw [if_pos rfl] at hok
          walk_at "oc hd"; exact hok
        · rw [decide_eq_false hc] at hok ⊢
          rw [if_neg (by decide)] at hok
          walk_at "oc hd"; exact hok
      · have ef : found.filterMap (fun o => if ltD o (nD a b) = true then some o else none) = found.filter fun o => ltD o (nD a b) := by
          exact filterMap_if _ found
        rw [ef]
        walk_at "oc hd"
        refine (p_getS_loc get1).mpr ?_
        walk_at "oc hd"
        refine (p_sl_loc (get_app hr)).mpr ⟨sz (Nat.le_trans cut_len (by omega)), ?_⟩
        walk_at "oc hd"
        refine ⟨sz (by simp), ?_⟩
        refine (p_addL (by (repeat (first | assumption | exact get1 | refine get_app ?_))) (by (repeat (first | assumption | exact get1 | refine get_app ?_)))).mpr ⟨sz ?_, ?_⟩
        · have := cut_len (xs := found) (lo := none) (hi := some (((found.filter fun o => ltD o (nD a b)).length : Nat) : Int))
          simp only [List.length_append, List.length_cons, List.length_nil]; omega
        walk_at "oc hd"
        refine (p_sl_loc (by (repeat (first | assumption | exact get1 | refine get_app ?_)))).mpr ⟨sz (Nat.le_trans cut_len (by omega)), ?_⟩
        have hil := (ins_len (found := found) (x := nD a b)).1
        have hie : ins found (nD a b) = cutD found none (some (((found.filter fun o => ltD o (nD a b)).length : Nat) : Int)) ++ [nD a b] ++ cutD found (some (((found.filter fun o => ltD o (nD a b)).length : Nat) : Int)) none := by
          unfold ins
          rw [if_neg (by rw [hin]; decide)]
        rw [hie] at hil
        refine (p_addL (by (repeat (first | assumption | exact get1 | refine get_app ?_))) (by (repeat (first | assumption | exact get1 | refine get_app ?_)))).mpr ⟨sz (by omega), ?_⟩
        walk_at "oc hd"
        refine ⟨_, _, some (nD a b), _, w, by simp only [List.append_assoc]; rfl, rfl, ?_, ?_⟩
        · rw [fin, hie]
          exact get1
        · simp only [List.length_append]; omega
  · rintro σ G' ⟨t, r, u, v, w, rfl, rfl, hr, hrl⟩
    refine ⟨chkG1 (get_app hp), ?_⟩
    rw [List.take_length] at hr
    walk_at "oc hd"
    exact h t r hr hrl
end
section
variable {n : Nat} {G : GH} {ok : D → GH → Prop} {ex : Str → Option D → GH → Prop}
theorem atI_lt {xs : List D} {i : Int} (h0 : 0 ≤ i) (h : i < xs.length) : ∃ d ∈ xs, atI xs i = some d := by
  have hl : i.toNat < xs.length := by omega
  refine ⟨xs[i.toNat], List.getElem_mem hl, ?_⟩
  unfold atI ixN
  rw [if_pos h0, if_pos h]
  simp [hl]
include H in
theorem s_pick {s p : Nat} {xs : List D} (hs : SrcAt s G) (hp : G[p]? = some (.lst xs)) (hsp : p ≠ s) (hx : 0 < xs.length) (hl : xs.length ≤ 1000) (h : ∀ d ∈ xs, ∀ G', SrcAt s G' → Kp s G G' → ok d G') : Post (callN P (n + 2) 18 [.loc s, .loc p]) G ok ex := by
  rw [p_call (fn := f__law_pick) H.i18 rfl]
  unfold f__law_pick
  walk_at "oc stt"
  walk_at "oc hd"
  refine (p_getS_loc hp).mpr ?_
  refine s_draw H hs (by omega) (by omega) fun f G' h0 h1 hs' kp => ?_
  dsimp only
  refine (p_getS_loc (kp.get hp hsp)).mpr ?_
  obtain ⟨d, hd, e⟩ := atI_lt h0 h1
  rw [e]
  exact h d hd G' hs' kp
theorem nm_one {a : Int} : Nm 6 a 1 := ⟨by decide, by decide, by simp⟩
theorem Nm.mono {B B' a b : Int} (h : Nm B a b) (hB : B ≤ B') : Nm B' a b := ⟨h.pos, Int.le_trans h.le hB, h.cop⟩
include H in
theorem s_number {s : Nat} (hs : SrcAt s G) (h : ∀ a b G', Nm 6 a b → SrcAt s G' → Kp s G G' → ok (nD a b) G') : Post (callN P (n + 2) 23 [.loc s]) G ok ex := by
  rw [p_call (fn := f__law_number) H.i23 rfl]
  unfold f__law_number
  walk_at "oc stt"
  walk_at "oc hd"
  refine s_draw H hs (by decide) (by decide) fun way G1 w0 w1 hs1 k1 => ?_
  walk_at "oc hd"
  refine s_draw H hs1 (by decide) (by decide) fun top G2 t0 t1 hs2 k2 => ?_
  walk_at "oc hd"
  refine ⟨sz (by decide), ?_⟩
  walk_at "oc hd"
  have k12 := k1.trans k2
  by_cases c1 : way < 4
  · rw [decide_eq_true c1]
    walk_at "oc hd"
    refine ⟨sz (by decide), ?_⟩
    exact h _ _ _ nm_one hs2 k12
  · rw [decide_eq_false c1]
    walk_at "oc hd"
    by_cases c2 : way < 6
    · rw [decide_eq_true c2]
      walk_at "oc hd"
      · exact small_mul_l (by decide)
      walk_at "oc hd"
      refine s_draw H hs2 (by decide) (by decide) fun f G3 f0 f1 hs3 k3 => ?_
      walk_at "oc hd"
      refine s_low H (by omega) (by omega) fun k m hn hx => ?_
      exact h _ _ _ (hn.mono (by omega)) hs3 (k12.trans k3)
    · rw [decide_eq_false c2]
      walk_at "oc hd"
      refine p_pow.mpr ⟨⟨by decide, by decide, by decide⟩, ?_⟩
      walk_at "oc hd"
      refine s_draw H hs2 (by decide) (by decide) fun f G3 f0 f1 hs3 k3 => ?_
      walk_at "oc hd"
      · exact small_mul_l (by decide)
      walk_at "oc hd"
      · exact small_mul_r (by omega)
      walk_at "oc hd"
      have k13 := k12.trans k3
      by_cases c3 : way = 6
      · rw [show (way == 6) = true by simpa using c3]
        walk_at "oc hd"
        refine ⟨sz (by decide), ?_⟩
        exact h _ _ _ nm_one hs3 k13
      · rw [show (way == 6) = false by simpa using c3]
        walk_at "oc hd"
        · exact small_mul_l (by decide)
        walk_at "oc hd"
        refine s_low H (by decide) (by decide) fun k m hn hx => ?_
        exact h _ _ _ (hn.mono (by decide)) hs3 k13
include H in
theorem s_constants {s : Nat} (hs : SrcAt s G) (h : ∀ ds G', AllN 6 ds → ds.length ≤ 3 → SrcAt s G' → Kp s G G' → ok (.tup ds) G') : Post (callN P (n + 3) 24 [.loc s, .int 3]) G ok ex := by
  rw [p_call (fn := f__law_constants) H.i24 rfl]
  unfold f__law_constants
  walk_at "oc stt"
  walk_at "oc hd"
  refine s_draw H hs (by decide) (by decide) fun f G1 f0 f1 hs1 k1 => ?_
  walk_at "oc hd"
  refine ⟨by constructor <;> omega, ?_⟩
  have hne : G1.length ≠ s := by have := hs1.lt; omega
  refine comp_go (fun i acc G' => SrcAt s G' ∧ Kp s G1 G' ∧ AllN 6 acc ∧ acc.length ≤ i) ⟨hs1.app, Kp.app, by simp [AllN], Nat.le_refl _⟩ get1 ?_ ?_
  · rintro i x acc G' hi hl ⟨i1, i2, i3, i4⟩
    refine ⟨rfl, ?_⟩
    refine p_turn0.mpr ?_
    dsimp only [wipeD, List.map_cons, List.map_nil, assignT, List.set_cons_zero, List.set_cons_succ]
    walk_at "oc hd"
    refine s_number H i1 fun a b G2 hn hs2 k2 => ?_
    have hi3 : i < 3 := by
      have := (List.getElem?_eq_some_iff.mp hi).1
      rw [rng_len] at this; omega
    refine ⟨k2.get hl hne, by rw [sizeLine_eq]; omega, hs2.set hne, (i2.trans k2).setNew (Nat.le_refl _), fun y hy => ?_, by simp; omega⟩
    rcases List.mem_append.mp hy with hy | hy
    · exact i3 y hy
    · rw [List.mem_singleton.mp hy]; exact ⟨a, b, rfl, hn⟩
  · rintro acc G' hl ⟨i1, i2, i3, i4⟩
    refine ⟨rfl, ?_⟩
    rw [rng_len] at i4
    walk_at "oc hd"
    refine s_sorted H (B := 6) (by decide) hl i3 (by omega) fun t r hr hrl => ?_
    walk_at "oc hd"
    refine (p_getS_loc hr).mpr ?_
    refine h _ _ (srt_all _ _ i3 (by simp [AllN])) ?_ i1.app ((k1.trans i2).trans Kp.app)
    have := srt_len acc []
    simp at this
    unfold srt; omega
end
end OC

local macro_rules | `(tactic| walk_at "oc gt") => `(tactic| repeat (first | assumption | exact OC.get1 | refine OC.get_app ?_))

namespace OC
open PySem PySem.Spec PyProof.Rows L2
variable {P : Prg} (H : HB P)
/-- all kept below -/
structure Ab (G G' : GH) : Prop where
  le : G.length ≤ G'.length
  kat : ∀ q, q < G.length → G'[q]? = G[q]?
theorem Ab.refl {G : GH} : Ab G G := ⟨Nat.le_refl _, fun _ _ => rfl⟩
theorem Ab.app {G t : GH} : Ab G (G ++ t) := ⟨by simp, fun q hq => List.getElem?_append_left hq⟩
theorem Ab.trans {G G1 G2 : GH} (a : Ab G G1) (b : Ab G1 G2) : Ab G G2 := ⟨Nat.le_trans a.le b.le, fun q hq => (b.kat q (Nat.lt_of_lt_of_le hq a.le)).trans (a.kat q hq)⟩
theorem Ab.set {G G' : GH} (h : Ab G G') {l : Nat} {o : GO} (hl : G.length ≤ l) : Ab G (G'.set l o) := ⟨by simp [h.le], fun q hq => by rw [List.getElem?_set_ne (by omega)]; exact h.kat q hq⟩
theorem Ab.kp {G G' : GH} (h : Ab G G') {s : Nat} : Kp s G G' := ⟨h.le, fun q hq _ => h.kat q hq⟩
theorem Ab.get {G G' : GH} (h : Ab G G') {q : Nat} {o : GO} (e : G[q]? = some o) : G'[q]? = some o := by rw [h.kat q (lt_of_get e)]; exact e
theorem SrcAt.ab {s : Nat} {G G' : GH} (h : SrcAt s G) (a : Ab G G') : SrcAt s G' := by
  obtain ⟨x, y, z, e⟩ := h
  exact ⟨x, y, z, a.get e⟩
section
variable {n : Nat} {G : GH} {ok : D → GH → Prop} {ex : Str → Option D → GH → Prop}
theorem nm_shift {B a b k : Int} (h : Nm B a b) : Nm B (a - k * b) b := by
  refine ⟨h.pos, h.le, ?_⟩
  have h1 := Nat.gcd_dvd_left (a - k * b).natAbs b.natAbs
  have h2 := Nat.gcd_dvd_right (a - k * b).natAbs b.natAbs
  generalize hg : Nat.gcd (a - k * b).natAbs b.natAbs = g at *
  have d1 : (g : Int) ∣ a - k * b := Int.ofNat_dvd_left.mpr h1
  have d2 : (g : Int) ∣ b := Int.ofNat_dvd_left.mpr h2
  have d3 : (g : Int) ∣ a := by
    have : a = (a - k * b) + k * b := by omega
    rw [this]
    exact Int.dvd_add d1 (Int.dvd_mul_of_dvd_right d2)
  have d4 : g ∣ a.natAbs := Int.ofNat_dvd_left.mp d3
  have := Nat.dvd_gcd d4 h2
  rw [h.cop] at this
  exact Nat.dvd_one.mp this
theorem nm_shift' {B a b k : Int} (h : Nm B a b) : Nm B (a + k * b) b := by
  have := nm_shift (k := -k) h
  rw [show a - -k * b = a + k * b by rw [Int.neg_mul]; omega] at this
  exact this
theorem rng_mem {x : D} : ∀ {m : Nat} {lo : Int}, x ∈ rngD lo m → ∃ j, x = .int j ∧ lo ≤ j ∧ j < lo + m
  | 0, lo, h => by simp [rngD] at h
  | m + 1, lo, h => by
    rcases List.mem_cons.mp h with h | h
    · exact ⟨lo, h, Int.le_refl _, by omega⟩
    · obtain ⟨j, e, h1, h2⟩ := rng_mem h
      exact ⟨j, e, by omega, by omega⟩
theorem p_append {i : Nat} {x : D} {xs : List D} (e : G[i]? = some (.lst xs)) (hz : xs.length ≤ 1000) : Post (methD .append (.loc i) [x]) G ok ex ↔ ok .non (G.set i (.lst (xs ++ [x]))) := by
  show Post (fun G => (match G[i]? with
    | some (.lst xs) => if xs.length < sizeLine then .ok .non (G.set i (.lst (xs ++ [x]))) else .bad
    | _ => .bad)) G ok ex ↔ _
  have hz : xs.length < sizeLine := by rw [sizeLine_eq]; omega
  unfold Post
  simp only [e, hz, if_true]
theorem p_extend {i j : Nat} {xs ys : List D} (e : G[i]? = some (.lst xs)) (e2 : G[j]? = some (.lst ys)) (hij : i ≠ j) (hz : xs.length + ys.length ≤ 1000) : Post (methD .extend (.loc i) [.loc j]) G ok ex ↔ ok .non (G.set i (.lst (xs ++ ys))) := by
  show Post (fun G => (match G[i]?, G[j]? with
    | some (.lst xs), some (.lst ys) => if i ≠ j ∧ xs.length + ys.length ≤ sizeLine then .ok .non (G.set i (.lst (xs ++ ys))) else .bad
    | _, _ => .bad)) G ok ex ↔ _
  have hz : i ≠ j ∧ xs.length + ys.length ≤ sizeLine := ⟨hij, sz hz⟩
  unfold Post
  simp only [e, e2]
  rw [if_pos hz]
theorem AllN.mono {B B' : Int} {xs : List D} (h : AllN B xs) (hB : B ≤ B') : AllN B' xs := fun x hx => by
  obtain ⟨a, b, e, hn⟩ := h x hx
  exact ⟨a, b, e, hn.mono hB⟩
theorem AllN.app {B : Int} {xs ys : List D} (h : AllN B xs) (k : AllN B ys) : AllN B (xs ++ ys) := fun x hx => (List.mem_append.mp hx).elim (h x) (k x)
theorem AllN.one {B a b : Int} (h : Nm B a b) : AllN B [nD a b] := fun x hx => ⟨a, b, List.mem_singleton.mp hx, h⟩
theorem atI_last {xs : List D} (h : xs ≠ []) : ∃ d ∈ xs, atI xs (-1) = some d := by
  have hl : 0 < xs.length := List.length_pos_iff.mpr h
  refine ⟨xs[xs.length - 1], List.getElem_mem _, ?_⟩
  unfold atI ixN
  rw [if_neg (by omega), if_pos (by omega)]
  have : (-1 + (xs.length : Int)).toNat = xs.length - 1 := by omega
  simp only [Option.bind_some, this]
  simp [show xs.length - 1 < xs.length by omega]
theorem lt_of_getE {α : Type} {xs : List α} {i : Nat} {x : α} (e : xs[i]? = some x) : i < xs.length := (List.getElem?_eq_some_iff.mp e).1
end
section
variable {n : Nat} {G : GH} {ok : D → GH → Prop} {ex : Str → Option D → GH → Prop}
/-! ### sameness -/
structure Sq (G : GH) (d : D) (xs : List D) (b : Bool) : Prop where
  gs : ∀ (t : GH) {ok : List D → GH → Prop} {ex : Str → Option D → GH → Prop}, Post (getS d) (G ++ t) ok ex ↔ ok xs (G ++ t)
  t1 : ∀ t, isTys (G ++ t) d [.tup, .lst] = some true
  t2 : ∀ t, isTys (G ++ t) d [.tup] = some b
theorem Sq.tup {xs : List D} : Sq G (.tup xs) xs true := ⟨fun _ => Iff.rfl, fun _ => rfl, fun _ => rfl⟩
theorem Sq.loc {i : Nat} {xs : List D} (h : G[i]? = some (.lst xs)) : Sq G (.loc i) xs false := by
  refine ⟨fun t => p_getS_loc (get_app h), fun t => ?_, fun t => ?_⟩
  · simp only [isTys, isTy, get_app (t := t) h]; rfl
  · simp only [isTys, isTy, get_app (t := t) h]; rfl
def SameOk (P : Prg) (k : Nat) (d : D) : Prop := ∀ (n : Nat) (G : GH) (ok : D → GH → Prop) (ex : Str → Option D → GH → Prop), (∀ t, ok (.bl true) (G ++ t)) → Post (callN P (n + k) 19 [d, d]) G ok ex
include H in
theorem SameOk.up {k : Nat} {d : D} (h : SameOk P k d) : SameOk P (k + 1) d := fun n G ok ex hk => by
  have := h (n + 1) G ok ex hk
  rwa [show n + 1 + k = n + (k + 1) by omega] at this
include H in
theorem same_int {i : Int} : SameOk P 1 (.int i) := fun n G ok ex hk => by
  rw [p_call (fn := f__law_same) H.i19 rfl]
  unfold f__law_same
  have h := hk []
  rw [List.append_nil] at h
  simp (config := {failIfUnchanged := false}) only [p_consS, p_nilS, p_ret, p_set, p_setI, p_ex, p_ifs, p_for, p_raise, p_pass, p_try, p_nilH, p_consH, p_k, p_gl, p_tup, p_lst, p_op, p_cmp, p_neg, p_not, p_bool1, p_bool2, p_ife, p_idx, p_kidx, p_slice, p_onone, p_osome, p_rev, p_tupR, p_callE0, p_callEK, p_bi, p_isinE, p_meth, p_nil, p_cons, p_v, p_comp, p_sq, p_seq_tup, p_seq_frz, p_rng1, p_enm, p_zip, p_add, p_sub, p_mul, p_fdiv, p_mod, p_pow, p_addT, p_lt, p_le, p_gt, p_ge, p_isN, p_isnN, p_isnB, p_eqI, p_neI, p_neB, p_len, p_abs, p_intI, p_intB, p_max, p_min, p_gcd, p_tuple, p_all, p_sum, p_sl_tup, p_sl_frz, p_getS_tup, p_getS_frz, p_getL_frz, p_newL, startD, List.map_cons, List.map_nil, List.replicate, List.length_cons, List.length_nil, List.cons_append, List.nil_append, List.append_nil, List.getElem?_cons_zero, List.getElem?_cons_succ, List.set_cons_zero, List.set_cons_succ, assignT, assignT.setAll, Nat.reduceAdd, Nat.reduceSub, Nat.reduceEqDiff, Nat.zero_add, if_true, if_false, Bool.not_true, Bool.not_false, Bool.false_eq_true, Bool.true_eq_false, Bool.not_eq_true, ite_true, ite_false, true_and, and_true, isTys, isTy, isNon, Option.bind_some, Option.map_some, beq_self_eq_true]
  exact h
include H in
theorem same_non : SameOk P 1 .non := fun n G ok ex hk => by
  rw [p_call (fn := f__law_same) H.i19 rfl]
  unfold f__law_same
  have h := hk []
  rw [List.append_nil] at h
  simp (config := {failIfUnchanged := false}) only [p_consS, p_nilS, p_ret, p_set, p_setI, p_ex, p_ifs, p_for, p_raise, p_pass, p_try, p_nilH, p_consH, p_k, p_gl, p_tup, p_lst, p_op, p_cmp, p_neg, p_not, p_bool1, p_bool2, p_ife, p_idx, p_kidx, p_slice, p_onone, p_osome, p_rev, p_tupR, p_callE0, p_callEK, p_bi, p_isinE, p_meth, p_nil, p_cons, p_v, p_comp, p_sq, p_seq_tup, p_seq_frz, p_rng1, p_enm, p_zip, p_add, p_sub, p_mul, p_fdiv, p_mod, p_pow, p_addT, p_lt, p_le, p_gt, p_ge, p_isN, p_isnN, p_isnB, p_eqI, p_neI, p_neB, p_len, p_abs, p_intI, p_intB, p_max, p_min, p_gcd, p_tuple, p_all, p_sum, p_sl_tup, p_sl_frz, p_getS_tup, p_getS_frz, p_getL_frz, p_newL, startD, List.map_cons, List.map_nil, List.replicate, List.length_cons, List.length_nil, List.cons_append, List.nil_append, List.append_nil, List.getElem?_cons_zero, List.getElem?_cons_succ, List.set_cons_zero, List.set_cons_succ, assignT, assignT.setAll, Nat.reduceAdd, Nat.reduceSub, Nat.reduceEqDiff, Nat.zero_add, if_true, if_false, Bool.not_true, Bool.not_false, Bool.false_eq_true, Bool.true_eq_false, Bool.not_eq_true, ite_true, ite_false, true_and, and_true, isTys, isTy, isNon, Option.bind_some, Option.map_some, beq_self_eq_true]
  exact h
include H in
theorem same_str {x : Str} : SameOk P 1 (.str x) := fun n G ok ex hk => by
  rw [p_call (fn := f__law_same) H.i19 rfl]
  unfold f__law_same
  have h := hk []
  rw [List.append_nil] at h
  have e : ∀ {ok : D → GH → Prop} {ex : Str → Option D → GH → Prop}, Post (cmpD .eq (.str x) (.str x)) G ok ex ↔ ok (.bl true) G := by
    intro ok ex
    rw [p_eqP rfl rfl (Nat.zero_le _)]
    show ok (.bl (x == x)) G ↔ _
    rw [beq_self_eq_true]
  simp (config := {failIfUnchanged := false}) only [p_consS, p_nilS, p_ret, p_set, p_setI, p_ex, p_ifs, p_for, p_raise, p_pass, p_try, p_nilH, p_consH, p_k, p_gl, p_tup, p_lst, p_op, p_cmp, p_neg, p_not, p_bool1, p_bool2, p_ife, p_idx, p_kidx, p_slice, p_onone, p_osome, p_rev, p_tupR, p_callE0, p_callEK, p_bi, p_isinE, p_meth, p_nil, p_cons, p_v, p_comp, p_sq, p_seq_tup, p_seq_frz, p_rng1, p_enm, p_zip, p_add, p_sub, p_mul, p_fdiv, p_mod, p_pow, p_addT, p_lt, p_le, p_gt, p_ge, p_isN, p_isnN, p_isnB, p_eqI, p_neI, p_neB, p_len, p_abs, p_intI, p_intB, p_max, p_min, p_gcd, p_tuple, p_all, p_sum, p_sl_tup, p_sl_frz, p_getS_tup, p_getS_frz, p_getL_frz, p_newL, startD, List.map_cons, List.map_nil, List.replicate, List.length_cons, List.length_nil, List.cons_append, List.nil_append, List.append_nil, List.getElem?_cons_zero, List.getElem?_cons_succ, List.set_cons_zero, List.set_cons_succ, assignT, assignT.setAll, Nat.reduceAdd, Nat.reduceSub, Nat.reduceEqDiff, Nat.zero_add, if_true, if_false, Bool.not_true, Bool.not_false, Bool.false_eq_true, Bool.true_eq_false, Bool.not_eq_true, ite_true, ite_false, true_and, and_true, isTys, isTy, isNon, Option.bind_some, Option.map_some, e]
  exact h
theorem all_true : ∀ m : Nat, bls? (List.replicate m (D.bl true)) = some (List.replicate m true)
  | 0 => rfl
  | m + 1 => by rw [List.replicate_succ, List.replicate_succ]; show (bls? _).map _ = _; rw [all_true m]; rfl
include H in
theorem same_seq {k : Nat} {d e : D} {xs : List D} {b : Bool} (hd : Sq G d xs b) (he : Sq G e xs b) (hl : xs.length ≤ 1000) (hx : ∀ x ∈ xs, SameOk P k x) (h : ∀ t, ok (.bl true) (G ++ t)) : Post (callN P (n + k + 1) 19 [d, e]) G ok ex := by
  rw [p_call (fn := f__law_same) H.i19 rfl]
  unfold f__law_same
  walk_at "oc stt"
  have g0 : G = G ++ [] := (List.append_nil G).symm
  have d1 := hd.t1 []; have d2 := hd.t2 []; have e1 := he.t1 []; have e2 := he.t2 []
  rw [List.append_nil] at d1 d2 e1 e2
  have ds : ∀ {ok : List D → GH → Prop} {ex : Str → Option D → GH → Prop}, Post (getS d) G ok ex ↔ ok xs G := by intro ok ex; have := hd.gs [] (ok := ok) (ex := ex); rwa [List.append_nil] at this
  have es : ∀ {ok : List D → GH → Prop} {ex : Str → Option D → GH → Prop}, Post (getS e) G ok ex ↔ ok xs G := by intro ok ex; have := he.gs [] (ok := ok) (ex := ex); rwa [List.append_nil] at this
  walk_at "oc hd"
  rw [e1]
  walk_at "oc hd"
  rw [d1]
  simp only [Bool.not_true]
  walk_at "oc hd"
  rw [d2]
  walk_at "oc hd"
  rw [e2]
  walk_at "oc hd"
  refine p_neB.mpr ?_
  rw [beq_self_eq_true, show (!true) = false from rfl]
  walk_at "oc hd"
  refine ds.mpr ?_
  walk_at "oc hd"
  refine es.mpr ?_
  walk_at "oc hd"
  refine p_neI.mpr ?_
  rw [beq_self_eq_true, show (!true) = false from rfl]
  walk_at "oc hd"
  refine es.mpr ?_
  walk_at "oc hd"
  refine ⟨by constructor <;> omega, ?_⟩
  rw [Int.toNat_natCast]
  refine comp_go (fun i acc G' => acc = List.replicate i (D.bl true) ∧ ∃ t, G' = G ++ t ∧ t.length > 0) ⟨rfl, _, rfl, by simp⟩ get1 ?_ ?_
  · rintro i x acc G' hi hl' ⟨rfl, t, rfl, ht⟩
    refine ⟨rfl, ?_⟩
    refine p_turn0.mpr ?_
    (simp only [List.map_cons, List.map_nil, wipeD]; dsimp only [assignT, List.set_cons_zero, List.set_cons_succ])
    obtain ⟨j, rfl, j0, j1⟩ := rng_mem (List.mem_of_getElem? hi)
    obtain ⟨x, hxm, ex'⟩ := atI_lt (xs := xs) j0 (by omega)
    walk_at "oc hd"
    refine (hd.gs t).mpr ?_
    rw [ex']
    walk_at "oc hd"
    refine (he.gs t).mpr ?_
    rw [ex']
    walk_at "oc hd"
    refine hx x hxm n _ _ _ fun t2 => ?_
    have hil := (List.getElem?_eq_some_iff.mp hi).1
    rw [rng_len] at hil
    refine ⟨get_app hl', by rw [sizeLine_eq, List.length_replicate]; omega, List.replicate_succ'.symm, ?_⟩
    refine ⟨(t ++ t2).set 0 (.lst (List.replicate i (D.bl true) ++ [D.bl true])), ?_, by simp; omega⟩
    rw [List.append_assoc, List.set_append_right _ _ (Nat.le_refl _)]
    simp
  · rintro acc G' hl' ⟨ha, t, rfl, ht⟩
    refine ⟨rfl, ?_⟩
    rw [rng_len] at ha
    subst ha
    walk_at "oc hd"
    refine (p_getL_loc hl').mpr ?_
    rw [all_true]
    dsimp only
    have : (List.replicate xs.length true).all id = true := by simp
    rw [this]
    exact h t
include H in
theorem same_tup {k : Nat} {xs : List D} (hl : xs.length ≤ 1000) (hx : ∀ x ∈ xs, SameOk P k x) : SameOk P (k + 1) (.tup xs) := fun n G ok ex hk => same_seq H (n := n) (k := k) .tup .tup hl hx hk
include H in
theorem same_ints {js : List Int} (hl : js.length ≤ 1000) : SameOk P 2 (.tup (js.map D.int)) := same_tup H (by simpa using hl) fun x hx => by
  obtain ⟨j, _, rfl⟩ := List.mem_map.mp hx
  exact same_int H
end
end OC

namespace OC
open PySem PySem.Spec PyProof.Rows L2
variable {P : Prg} (H : HB P)
/-! ### things that can be looked at -/
def Rz (G : GH) (k : Nat) (d : D) : Prop := ∃ p, rs G k d = some p
theorem mapO_mono {α β : Type} {f g : α → Option β} (h : ∀ x y, f x = some y → g x = some y) : ∀ {xs : List α} {ys : List β}, mapO f xs = some ys → mapO g xs = some ys
  | [], ys, e => e
  | x :: xs, ys, e => by
    obtain ⟨y, zs, h1, h2, rfl⟩ := mapO_cons e
    unfold mapO
    rw [h x y h1, mapO_mono h h2]
theorem rs_mono {G G' : GH} (hG : ∀ (i : Nat) (o : GO), G[i]? = some o → G'[i]? = some o) : ∀ (k : Nat) (d : D) (p : PyData), rs G k d = some p → ∀ j, k ≤ j → rs G' j d = some p
  | 0, d, p, h, _, _ => by cases d <;> cases h
  | k + 1, d, p, h, 0, hj => absurd hj (by omega)
  | k + 1, .non, p, h, j + 1, _ => h
  | k + 1, .bl _, p, h, j + 1, _ => h
  | k + 1, .int _, p, h, j + 1, _ => h
  | k + 1, .str _, p, h, j + 1, _ => h
  | k + 1, .tup xs, p, h, j + 1, hj => by
    obtain ⟨ps, e, rfl⟩ := Option.map_eq_some_iff.mp (show (mapO (rs G k) xs).map PyData.tuple = some p from h)
    show (mapO (rs G' j) xs).map PyData.tuple = _
    rw [mapO_mono (fun x y q => rs_mono hG k x y q j (by omega)) e]; rfl
  | k + 1, .frz xs, p, h, j + 1, hj => by
    obtain ⟨ps, e, rfl⟩ := Option.map_eq_some_iff.mp (show (mapO (rs G k) xs).map PyData.list = some p from h)
    show (mapO (rs G' j) xs).map PyData.list = _
    rw [mapO_mono (fun x y q => rs_mono hG k x y q j (by omega)) e]; rfl
  | k + 1, .loc i, p, h, j + 1, hj => by
    unfold rs at h ⊢
    cases eg : G[i]? with
    | none => rw [eg] at h; simp at h
    | some o =>
      obtain ⟨xs⟩ := o
      rw [eg] at h
      rw [hG i _ eg]
      obtain ⟨ps, e, rfl⟩ := Option.map_eq_some_iff.mp (show (mapO (rs G k) xs).map PyData.list = some p from h)
      show (mapO (rs G' j) xs).map PyData.list = _
      rw [mapO_mono (fun x y q => rs_mono hG k x y q j (by omega)) e]; rfl
theorem Rz.up {G : GH} {k j : Nat} {d : D} (h : Rz G k d) (hj : k ≤ j) : Rz G j d := let ⟨p, e⟩ := h; ⟨p, rs_mono (fun _ _ z => z) k d p e j hj⟩
theorem Rz.app {G t : GH} {k : Nat} {d : D} (h : Rz G k d) : Rz (G ++ t) k d := let ⟨p, e⟩ := h; ⟨p, rs_mono (fun i o z => by rw [List.getElem?_append_left (lt_of_get z)]; exact z) k d p e k (Nat.le_refl _)⟩
theorem Rz.kn {G : GH} {k : Nat} {d : D} (h : Rz G k d) : Kn G d := fun i e => by
  subst e
  obtain ⟨p, h⟩ := h
  cases k with
  | zero => cases h
  | succ k =>
    unfold rs at h
    cases eg : G[i]? with
    | none => rw [eg] at h; simp at h
    | some o => obtain ⟨xs⟩ := o; exact ⟨xs, rfl⟩
theorem Rz.tup {G : GH} {k : Nat} {xs : List D} (h : Rz G (k + 1) (.tup xs)) : ∀ x ∈ xs, Rz G k x := fun x hx => by
  obtain ⟨p, h⟩ := h
  obtain ⟨ps, e, rfl⟩ := Option.map_eq_some_iff.mp (show (mapO (rs G k) xs).map PyData.tuple = some p from h)
  obtain ⟨i, hi⟩ := List.getElem?_of_mem hx
  obtain ⟨y, h1, h2⟩ := (mapO_some e).2 i x hi
  exact ⟨y, h2⟩
theorem mapO_of {α β : Type} {f : α → Option β} : ∀ {xs : List α}, (∀ x ∈ xs, ∃ y, f x = some y) → ∃ ys, mapO f xs = some ys
  | [], _ => ⟨[], rfl⟩
  | x :: xs, h => by
    obtain ⟨y, e⟩ := h x List.mem_cons_self
    obtain ⟨ys, e2⟩ := mapO_of fun z hz => h z (List.mem_cons_of_mem _ hz)
    exact ⟨y :: ys, by unfold mapO; rw [e, e2]⟩
theorem Rz.mk {G : GH} {k : Nat} {xs : List D} (h : ∀ x ∈ xs, Rz G k x) : Rz G (k + 1) (.tup xs) := by
  obtain ⟨ys, e⟩ := mapO_of h
  exact ⟨.tuple ys, by show (mapO (rs G k) xs).map _ = _; rw [e]; rfl⟩
theorem Rz.mkL {G : GH} {k i : Nat} {xs : List D} (hi : G[i]? = some (.lst xs)) (h : ∀ x ∈ xs, Rz G k x) : Rz G (k + 1) (.loc i) := by
  obtain ⟨ys, e⟩ := mapO_of h
  exact ⟨.list ys, by unfold rs; rw [hi]; show (mapO (rs G k) xs).map _ = _; rw [e]; rfl⟩
theorem Rz.pure {G : GH} {k : Nat} {d : D} (h : pureD d = true) (hd : dep d < k) : Rz G k d := ⟨_, rs_pure k d h hd⟩
theorem Rz.int {G : GH} {k : Nat} {i : Int} : Rz G (k + 1) (.int i) := ⟨_, rfl⟩
theorem Rz.str {G : GH} {k : Nat} {i : Str} : Rz G (k + 1) (.str i) := ⟨_, rfl⟩
/-- one thing alone, and it is the text -/
def oneIs (w : Str) : List D → Bool
  | [.str s] => s == w
  | _ => false
/-- is the text -/
def strIs (w : Str) : D → Bool
  | .str s => s == w
  | _ => false
def isS : D → Bool
  | .str _ => true
  | _ => false
section
variable {n : Nat} {G : GH} {ok : D → GH → Prop} {ex : Str → Option D → GH → Prop}
theorem rs_str {k : Nat} {d : D} {w : Str} {p : PyData} (h : rs G k d = some p) : PyData.eqv p (.str w) = strIs w d := by
  cases k with
  | zero => cases d <;> cases h
  | succ k =>
    cases d with
    | non => cases (show some PyData.none = some p from h); rfl
    | bl _ => cases (show some (PyData.bool _) = some p from h); rfl
    | int _ => cases (show some (PyData.int _) = some p from h); rfl
    | str s => cases (show some (PyData.str s) = some p from h); rfl
    | tup xs => obtain ⟨ps, e, rfl⟩ := Option.map_eq_some_iff.mp (show (mapO (rs G k) xs).map PyData.tuple = some p from h); rfl
    | frz xs => obtain ⟨ps, e, rfl⟩ := Option.map_eq_some_iff.mp (show (mapO (rs G k) xs).map PyData.list = some p from h); rfl
    | loc i =>
      unfold rs at h
      cases eg : G[i]? with
      | none => rw [eg] at h; simp at h
      | some o =>
        obtain ⟨xs⟩ := o
        rw [eg] at h
        obtain ⟨ps, e, rfl⟩ := Option.map_eq_some_iff.mp (show (mapO (rs G k) xs).map PyData.list = some p from h); rfl
theorem p_eqS {k : Nat} {d : D} {w : Str} (hd : Rz G k d) (hk : k ≤ 64) (h : ok (.bl (strIs w d)) G) : Post (cmpD .eq d (.str w)) G ok ex := by
  obtain ⟨p, e⟩ := hd.up hk
  refine (p_eqG e (show rs G 64 (.str w) = some (.str w) from rfl)).mpr ?_
  rw [rs_str e]; exact h
theorem p_eqNil {k : Nat} {xs : List D} (hd : Rz G k (.tup xs)) (hk : k ≤ 64) (h : ok (.bl xs.isEmpty) G) : Post (cmpD .eq (.tup xs) (.tup [])) G ok ex := by
  obtain ⟨p, e⟩ := hd.up hk
  refine (p_eqG e (show rs G 64 (.tup []) = some (.tuple []) from rfl)).mpr ?_
  obtain ⟨ps, e2, rfl⟩ := Option.map_eq_some_iff.mp (show (mapO (rs G 63) xs).map PyData.tuple = some p from e)
  have hl := (mapO_some e2).1
  have : PyData.eqv (.tuple ps) (.tuple []) = xs.isEmpty := by
    simp only [PyData.eqv]
    cases xs with
    | nil => cases ps with
      | nil => rfl
      | cons a b => simp at hl
    | cons x xs => cases ps with
      | nil => simp at hl
      | cons a b => rfl
  rw [this]; exact h
theorem p_eqOne {k : Nat} {xs : List D} {w : Str} (hd : Rz G k (.tup xs)) (hk : k ≤ 64) (h : ok (.bl (oneIs w xs)) G) : Post (cmpD .eq (.tup xs) (.tup [.str w])) G ok ex := by
  obtain ⟨p, e⟩ := hd.up hk
  refine (p_eqG e (show rs G 64 (.tup [.str w]) = some (.tuple [.str w]) from rfl)).mpr ?_
  obtain ⟨ps, e2, rfl⟩ := Option.map_eq_some_iff.mp (show (mapO (rs G 63) xs).map PyData.tuple = some p from e)
  have : PyData.eqv (.tuple ps) (.tuple [.str w]) = oneIs w xs := by
    simp only [PyData.eqv]
    cases xs with
    | nil =>
      have e3 : some [] = some ps := e2
      cases e3; rfl
    | cons x xs =>
      obtain ⟨q, qs, h1, h2, rfl⟩ := mapO_cons e2
      simp only [PyData.eqvAll, rs_str h1]
      cases xs with
      | nil =>
        have e3 : some [] = some qs := h2
        cases e3; simp only [PyData.eqvAll, Bool.and_true]
        cases x <;> rfl
      | cons y ys =>
        obtain ⟨q2, qs2, h3, h4, rfl⟩ := mapO_cons h2
        simp only [PyData.eqvAll, Bool.and_false]
        cases x <;> rfl
  rw [this]; exact h
/-- x in (two texts) -/
theorem p_inTwo {k : Nat} {d : D} {u w : Str} (hd : Rz G k d) (hk : k ≤ 64) (h : ok (.bl (strIs u d || strIs w d)) G) : Post (cmpD .isin d (.tup [.str u, .str w])) G ok ex := by
  obtain ⟨p, e⟩ := hd.up hk
  show Post (inD d (.tup [.str u, .str w]) >>= fun c => mret (.bl c)) G ok ex
  rw [p_bind]
  unfold inD
  rw [p_bind]
  refine p_getS_tup.mpr ?_
  have e1 : mapO (rs G 64) [D.str u, .str w] = some [.str u, .str w] := rfl
  unfold Post
  simp only [e1, e]
  have sy : ∀ x : Str, PyData.eqv (.str x) p = strIs x d := fun x => by
    have := rs_str (w := x) e
    rw [← this]
    cases p with
    | str s =>
      simp only [PyData.eqv]
      exact BEq.comm
    | _ => rfl
  have : ([PyData.str u, .str w].any fun q => PyData.eqv q p) = (strIs u d || strIs w d) := by
    simp [sy]
  rw [this]; exact h
theorem isTy_str {d : D} (hd : Kn G d) : isTys G d [.str] = some (isS d) := by
  cases d with
  | loc i =>
    obtain ⟨xs, e⟩ := hd i rfl
    simp [isTys, isTy, e, isS]
  | _ => simp [isTys, isTy, isS] <;> rfl
include H in
theorem s_is_below (i2 : P[2]? = some f_is_below) {many : Int} {d : D} (hd : Kn G d) (h : ok (.bl (belowB many d)) G) : Post (callN P (n + 3) 2 [.int many, d]) G ok ex := by
  rw [p_call (fn := f_is_below) i2 rfl]
  unfold f_is_below
  simp (config := {failIfUnchanged := false}) only [p_consS, p_nilS, p_ret, p_set, p_setI, p_ex, p_ifs, p_for, p_raise, p_pass, p_try, p_nilH, p_consH, p_k, p_gl, p_tup, p_lst, p_op, p_cmp, p_neg, p_not, p_bool1, p_bool2, p_ife, p_idx, p_kidx, p_slice, p_onone, p_osome, p_rev, p_tupR, p_callE0, p_callEK, p_bi, p_isinE, p_meth, p_nil, p_cons, p_v, p_comp, p_sq, p_seq_tup, p_seq_frz, p_rng1, p_enm, p_zip, p_add, p_sub, p_mul, p_fdiv, p_mod, p_pow, p_addT, p_lt, p_le, p_gt, p_ge, p_isN, p_isnN, p_isnB, p_eqI, p_neI, p_neB, p_len, p_abs, p_intI, p_intB, p_max, p_min, p_gcd, p_tuple, p_all, p_sum, p_sl_tup, p_sl_frz, p_getS_tup, p_getS_frz, p_getL_frz, p_newL, startD, List.map_cons, List.map_nil, List.replicate, List.length_cons, List.length_nil, List.cons_append, List.nil_append, List.append_nil, List.getElem?_cons_zero, List.getElem?_cons_succ, List.set_cons_zero, List.set_cons_succ, assignT, assignT.setAll, Nat.reduceAdd, Nat.reduceSub, Nat.reduceEqDiff, Nat.zero_add, if_true, if_false, Bool.not_true, Bool.not_false, Bool.false_eq_true, Bool.true_eq_false, Bool.not_eq_true, ite_true, ite_false, true_and, and_true]
  refine s_is_from H hd ?_
  cases d with
  | int i =>
    simp only [fromB]
    by_cases h0 : (0 : Int) ≤ i
    · simp only [h0, decide_true, if_true]
      have e : belowB many (.int i) = decide (i < many) := by simp [belowB, h0]
      rw [e] at h
      simp (config := {failIfUnchanged := false}) only [p_consS, p_nilS, p_ret, p_set, p_setI, p_ex, p_ifs, p_for, p_raise, p_pass, p_try, p_nilH, p_consH, p_k, p_gl, p_tup, p_lst, p_op, p_cmp, p_neg, p_not, p_bool1, p_bool2, p_ife, p_idx, p_kidx, p_slice, p_onone, p_osome, p_rev, p_tupR, p_callE0, p_callEK, p_bi, p_isinE, p_meth, p_nil, p_cons, p_v, p_comp, p_sq, p_seq_tup, p_seq_frz, p_rng1, p_enm, p_zip, p_add, p_sub, p_mul, p_fdiv, p_mod, p_pow, p_addT, p_lt, p_le, p_gt, p_ge, p_isN, p_isnN, p_isnB, p_eqI, p_neI, p_neB, p_len, p_abs, p_intI, p_intB, p_max, p_min, p_gcd, p_tuple, p_all, p_sum, p_sl_tup, p_sl_frz, p_getS_tup, p_getS_frz, p_getL_frz, p_newL, startD, List.map_cons, List.map_nil, List.replicate, List.length_cons, List.length_nil, List.cons_append, List.nil_append, List.append_nil, List.getElem?_cons_zero, List.getElem?_cons_succ, List.set_cons_zero, List.set_cons_succ, assignT, assignT.setAll, Nat.reduceAdd, Nat.reduceSub, Nat.reduceEqDiff, Nat.zero_add, if_true, if_false, Bool.not_true, Bool.not_false, Bool.false_eq_true, Bool.true_eq_false, Bool.not_eq_true, ite_true, ite_false, true_and, and_true]; exact h
    · simp only [h0, decide_false, Bool.false_eq_true, if_false]
      have e : belowB many (.int i) = false := by simp [belowB, h0]
      rw [e] at h
      exact h
  | _ => exact h
include H in
theorem s_is_number (i5 : P[5]? = some f_is_number) {k : Nat} {d : D} (hd : Rz G k d) (h : ok (.bl (numB d)) G) : Post (callN P (n + 3) 5 [d]) G ok ex := by
  rw [p_call (fn := f_is_number) i5 rfl]
  unfold f_is_number
  simp (config := {failIfUnchanged := false}) only [p_consS, p_nilS, p_ret, p_set, p_setI, p_ex, p_ifs, p_for, p_raise, p_pass, p_try, p_nilH, p_consH, p_k, p_gl, p_tup, p_lst, p_op, p_cmp, p_neg, p_not, p_bool1, p_bool2, p_ife, p_idx, p_kidx, p_slice, p_onone, p_osome, p_rev, p_tupR, p_callE0, p_callEK, p_bi, p_isinE, p_meth, p_nil, p_cons, p_v, p_comp, p_sq, p_seq_tup, p_seq_frz, p_rng1, p_enm, p_zip, p_add, p_sub, p_mul, p_fdiv, p_mod, p_pow, p_addT, p_lt, p_le, p_gt, p_ge, p_isN, p_isnN, p_isnB, p_eqI, p_neI, p_neB, p_len, p_abs, p_intI, p_intB, p_max, p_min, p_gcd, p_tuple, p_all, p_sum, p_sl_tup, p_sl_frz, p_getS_tup, p_getS_frz, p_getL_frz, p_newL, startD, List.map_cons, List.map_nil, List.replicate, List.length_cons, List.length_nil, List.cons_append, List.nil_append, List.append_nil, List.getElem?_cons_zero, List.getElem?_cons_succ, List.set_cons_zero, List.set_cons_succ, assignT, assignT.setAll, Nat.reduceAdd, Nat.reduceSub, Nat.reduceEqDiff, Nat.zero_add, if_true, if_false, Bool.not_true, Bool.not_false, Bool.false_eq_true, Bool.true_eq_false, Bool.not_eq_true, ite_true, ite_false, true_and, and_true]
  refine s_is_tuple H hd.kn ?_
  cases d with
  | tup xs =>
    cases hl : ((xs.length : Int) == 2) with
    | false =>
      simp only [tupB, hl]
      rw [numB_len hl] at h
      simp (config := {failIfUnchanged := false}) only [p_consS, p_nilS, p_ret, p_set, p_setI, p_ex, p_ifs, p_for, p_raise, p_pass, p_try, p_nilH, p_consH, p_k, p_gl, p_tup, p_lst, p_op, p_cmp, p_neg, p_not, p_bool1, p_bool2, p_ife, p_idx, p_kidx, p_slice, p_onone, p_osome, p_rev, p_tupR, p_callE0, p_callEK, p_bi, p_isinE, p_meth, p_nil, p_cons, p_v, p_comp, p_sq, p_seq_tup, p_seq_frz, p_rng1, p_enm, p_zip, p_add, p_sub, p_mul, p_fdiv, p_mod, p_pow, p_addT, p_lt, p_le, p_gt, p_ge, p_isN, p_isnN, p_isnB, p_eqI, p_neI, p_neB, p_len, p_abs, p_intI, p_intB, p_max, p_min, p_gcd, p_tuple, p_all, p_sum, p_sl_tup, p_sl_frz, p_getS_tup, p_getS_frz, p_getL_frz, p_newL, startD, List.map_cons, List.map_nil, List.replicate, List.length_cons, List.length_nil, List.cons_append, List.nil_append, List.append_nil, List.getElem?_cons_zero, List.getElem?_cons_succ, List.set_cons_zero, List.set_cons_succ, assignT, assignT.setAll, Nat.reduceAdd, Nat.reduceSub, Nat.reduceEqDiff, Nat.zero_add, if_true, if_false, Bool.not_true, Bool.not_false, Bool.false_eq_true, Bool.true_eq_false, Bool.not_eq_true, ite_true, ite_false, true_and, and_true]; exact h
    | true =>
      match xs, hl, hd, h with
      | [x, y], hl, hd, h =>
        have hd : Rz G (k + 1) (.tup [x, y]) := hd.up (by omega)
        have px := (hd.tup x (by simp)).kn
        have py := (hd.tup y (by simp)).kn
        simp only [tupB, hl]
        simp (config := {failIfUnchanged := false}) only [p_consS, p_nilS, p_ret, p_set, p_setI, p_ex, p_ifs, p_for, p_raise, p_pass, p_try, p_nilH, p_consH, p_k, p_gl, p_tup, p_lst, p_op, p_cmp, p_neg, p_not, p_bool1, p_bool2, p_ife, p_idx, p_kidx, p_slice, p_onone, p_osome, p_rev, p_tupR, p_callE0, p_callEK, p_bi, p_isinE, p_meth, p_nil, p_cons, p_v, p_comp, p_sq, p_seq_tup, p_seq_frz, p_rng1, p_enm, p_zip, p_add, p_sub, p_mul, p_fdiv, p_mod, p_pow, p_addT, p_lt, p_le, p_gt, p_ge, p_isN, p_isnN, p_isnB, p_eqI, p_neI, p_neB, p_len, p_abs, p_intI, p_intB, p_max, p_min, p_gcd, p_tuple, p_all, p_sum, p_sl_tup, p_sl_frz, p_getS_tup, p_getS_frz, p_getL_frz, p_newL, startD, List.map_cons, List.map_nil, List.replicate, List.length_cons, List.length_nil, List.cons_append, List.nil_append, List.append_nil, List.getElem?_cons_zero, List.getElem?_cons_succ, List.set_cons_zero, List.set_cons_succ, assignT, assignT.setAll, Nat.reduceAdd, Nat.reduceSub, Nat.reduceEqDiff, Nat.zero_add, if_true, if_false, Bool.not_true, Bool.not_false, Bool.false_eq_true, Bool.true_eq_false, Bool.not_eq_true, ite_true, ite_false, true_and, and_true, atI0, atI1]
        refine s_is_integer H px ?_
        cases x with
        | int a =>
          simp only [isI]
          simp (config := {failIfUnchanged := false}) only [p_consS, p_nilS, p_ret, p_set, p_setI, p_ex, p_ifs, p_for, p_raise, p_pass, p_try, p_nilH, p_consH, p_k, p_gl, p_tup, p_lst, p_op, p_cmp, p_neg, p_not, p_bool1, p_bool2, p_ife, p_idx, p_kidx, p_slice, p_onone, p_osome, p_rev, p_tupR, p_callE0, p_callEK, p_bi, p_isinE, p_meth, p_nil, p_cons, p_v, p_comp, p_sq, p_seq_tup, p_seq_frz, p_rng1, p_enm, p_zip, p_add, p_sub, p_mul, p_fdiv, p_mod, p_pow, p_addT, p_lt, p_le, p_gt, p_ge, p_isN, p_isnN, p_isnB, p_eqI, p_neI, p_neB, p_len, p_abs, p_intI, p_intB, p_max, p_min, p_gcd, p_tuple, p_all, p_sum, p_sl_tup, p_sl_frz, p_getS_tup, p_getS_frz, p_getL_frz, p_newL, startD, List.map_cons, List.map_nil, List.replicate, List.length_cons, List.length_nil, List.cons_append, List.nil_append, List.append_nil, List.getElem?_cons_zero, List.getElem?_cons_succ, List.set_cons_zero, List.set_cons_succ, assignT, assignT.setAll, Nat.reduceAdd, Nat.reduceSub, Nat.reduceEqDiff, Nat.zero_add, if_true, if_false, Bool.not_true, Bool.not_false, Bool.false_eq_true, Bool.true_eq_false, Bool.not_eq_true, ite_true, ite_false, true_and, and_true, atI0, atI1]
          refine s_is_from H py ?_
          cases y with
          | int b =>
            simp only [fromB]
            by_cases hb : (1 : Int) ≤ b
            · have e : numB (.tup [.int a, .int b]) = (((Nat.gcd a.natAbs b.natAbs : Nat) : Int) == 1) := by simp [numB, hb]
              rw [e] at h
              simp only [hb, decide_true]
              simp (config := {failIfUnchanged := false}) only [p_consS, p_nilS, p_ret, p_set, p_setI, p_ex, p_ifs, p_for, p_raise, p_pass, p_try, p_nilH, p_consH, p_k, p_gl, p_tup, p_lst, p_op, p_cmp, p_neg, p_not, p_bool1, p_bool2, p_ife, p_idx, p_kidx, p_slice, p_onone, p_osome, p_rev, p_tupR, p_callE0, p_callEK, p_bi, p_isinE, p_meth, p_nil, p_cons, p_v, p_comp, p_sq, p_seq_tup, p_seq_frz, p_rng1, p_enm, p_zip, p_add, p_sub, p_mul, p_fdiv, p_mod, p_pow, p_addT, p_lt, p_le, p_gt, p_ge, p_isN, p_isnN, p_isnB, p_eqI, p_neI, p_neB, p_len, p_abs, p_intI, p_intB, p_max, p_min, p_gcd, p_tuple, p_all, p_sum, p_sl_tup, p_sl_frz, p_getS_tup, p_getS_frz, p_getL_frz, p_newL, startD, List.map_cons, List.map_nil, List.replicate, List.length_cons, List.length_nil, List.cons_append, List.nil_append, List.append_nil, List.getElem?_cons_zero, List.getElem?_cons_succ, List.set_cons_zero, List.set_cons_succ, assignT, assignT.setAll, Nat.reduceAdd, Nat.reduceSub, Nat.reduceEqDiff, Nat.zero_add, if_true, if_false, Bool.not_true, Bool.not_false, Bool.false_eq_true, Bool.true_eq_false, Bool.not_eq_true, ite_true, ite_false, true_and, and_true, atI0, atI1]
              exact h
            · have e : numB (.tup [.int a, .int b]) = false := by simp [numB, hb]
              rw [e] at h
              simp only [hb, decide_false]
              simp (config := {failIfUnchanged := false}) only [p_consS, p_nilS, p_ret, p_set, p_setI, p_ex, p_ifs, p_for, p_raise, p_pass, p_try, p_nilH, p_consH, p_k, p_gl, p_tup, p_lst, p_op, p_cmp, p_neg, p_not, p_bool1, p_bool2, p_ife, p_idx, p_kidx, p_slice, p_onone, p_osome, p_rev, p_tupR, p_callE0, p_callEK, p_bi, p_isinE, p_meth, p_nil, p_cons, p_v, p_comp, p_sq, p_seq_tup, p_seq_frz, p_rng1, p_enm, p_zip, p_add, p_sub, p_mul, p_fdiv, p_mod, p_pow, p_addT, p_lt, p_le, p_gt, p_ge, p_isN, p_isnN, p_isnB, p_eqI, p_neI, p_neB, p_len, p_abs, p_intI, p_intB, p_max, p_min, p_gcd, p_tuple, p_all, p_sum, p_sl_tup, p_sl_frz, p_getS_tup, p_getS_frz, p_getL_frz, p_newL, startD, List.map_cons, List.map_nil, List.replicate, List.length_cons, List.length_nil, List.cons_append, List.nil_append, List.append_nil, List.getElem?_cons_zero, List.getElem?_cons_succ, List.set_cons_zero, List.set_cons_succ, assignT, assignT.setAll, Nat.reduceAdd, Nat.reduceSub, Nat.reduceEqDiff, Nat.zero_add, if_true, if_false, Bool.not_true, Bool.not_false, Bool.false_eq_true, Bool.true_eq_false, Bool.not_eq_true, ite_true, ite_false, true_and, and_true]; exact h
          | _ =>
            simp only [fromB]
            have e : ∀ {z : D}, (∀ i, z ≠ .int i) → numB (.tup [.int a, z]) = false := fun {z} hz => by cases z <;> first | rfl | exact (hz _ rfl).elim
            rw [e (by intro i z; cases z)] at h
            simp (config := {failIfUnchanged := false}) only [p_consS, p_nilS, p_ret, p_set, p_setI, p_ex, p_ifs, p_for, p_raise, p_pass, p_try, p_nilH, p_consH, p_k, p_gl, p_tup, p_lst, p_op, p_cmp, p_neg, p_not, p_bool1, p_bool2, p_ife, p_idx, p_kidx, p_slice, p_onone, p_osome, p_rev, p_tupR, p_callE0, p_callEK, p_bi, p_isinE, p_meth, p_nil, p_cons, p_v, p_comp, p_sq, p_seq_tup, p_seq_frz, p_rng1, p_enm, p_zip, p_add, p_sub, p_mul, p_fdiv, p_mod, p_pow, p_addT, p_lt, p_le, p_gt, p_ge, p_isN, p_isnN, p_isnB, p_eqI, p_neI, p_neB, p_len, p_abs, p_intI, p_intB, p_max, p_min, p_gcd, p_tuple, p_all, p_sum, p_sl_tup, p_sl_frz, p_getS_tup, p_getS_frz, p_getL_frz, p_newL, startD, List.map_cons, List.map_nil, List.replicate, List.length_cons, List.length_nil, List.cons_append, List.nil_append, List.append_nil, List.getElem?_cons_zero, List.getElem?_cons_succ, List.set_cons_zero, List.set_cons_succ, assignT, assignT.setAll, Nat.reduceAdd, Nat.reduceSub, Nat.reduceEqDiff, Nat.zero_add, if_true, if_false, Bool.not_true, Bool.not_false, Bool.false_eq_true, Bool.true_eq_false, Bool.not_eq_true, ite_true, ite_false, true_and, and_true]; exact h
        | _ =>
          simp only [isI]
          have e : ∀ {z : D}, (∀ i, z ≠ .int i) → numB (.tup [z, y]) = false := fun {z} hz => by cases z <;> first | rfl | exact (hz _ rfl).elim
          rw [e (by intro i z; cases z)] at h
          simp (config := {failIfUnchanged := false}) only [p_consS, p_nilS, p_ret, p_set, p_setI, p_ex, p_ifs, p_for, p_raise, p_pass, p_try, p_nilH, p_consH, p_k, p_gl, p_tup, p_lst, p_op, p_cmp, p_neg, p_not, p_bool1, p_bool2, p_ife, p_idx, p_kidx, p_slice, p_onone, p_osome, p_rev, p_tupR, p_callE0, p_callEK, p_bi, p_isinE, p_meth, p_nil, p_cons, p_v, p_comp, p_sq, p_seq_tup, p_seq_frz, p_rng1, p_enm, p_zip, p_add, p_sub, p_mul, p_fdiv, p_mod, p_pow, p_addT, p_lt, p_le, p_gt, p_ge, p_isN, p_isnN, p_isnB, p_eqI, p_neI, p_neB, p_len, p_abs, p_intI, p_intB, p_max, p_min, p_gcd, p_tuple, p_all, p_sum, p_sl_tup, p_sl_frz, p_getS_tup, p_getS_frz, p_getL_frz, p_newL, startD, List.map_cons, List.map_nil, List.replicate, List.length_cons, List.length_nil, List.cons_append, List.nil_append, List.append_nil, List.getElem?_cons_zero, List.getElem?_cons_succ, List.set_cons_zero, List.set_cons_succ, assignT, assignT.setAll, Nat.reduceAdd, Nat.reduceSub, Nat.reduceEqDiff, Nat.zero_add, if_true, if_false, Bool.not_true, Bool.not_false, Bool.false_eq_true, Bool.true_eq_false, Bool.not_eq_true, ite_true, ite_false, true_and, and_true]; exact h
      | [], hl, _, _ => simp at hl
      | [a], hl, _, _ => simp at hl
      | a :: b :: c :: r, hl, _, _ => simp at hl; omega
  | _ =>
    simp only [tupB]
    simp (config := {failIfUnchanged := false}) only [p_consS, p_nilS, p_ret, p_set, p_setI, p_ex, p_ifs, p_for, p_raise, p_pass, p_try, p_nilH, p_consH, p_k, p_gl, p_tup, p_lst, p_op, p_cmp, p_neg, p_not, p_bool1, p_bool2, p_ife, p_idx, p_kidx, p_slice, p_onone, p_osome, p_rev, p_tupR, p_callE0, p_callEK, p_bi, p_isinE, p_meth, p_nil, p_cons, p_v, p_comp, p_sq, p_seq_tup, p_seq_frz, p_rng1, p_enm, p_zip, p_add, p_sub, p_mul, p_fdiv, p_mod, p_pow, p_addT, p_lt, p_le, p_gt, p_ge, p_isN, p_isnN, p_isnB, p_eqI, p_neI, p_neB, p_len, p_abs, p_intI, p_intB, p_max, p_min, p_gcd, p_tuple, p_all, p_sum, p_sl_tup, p_sl_frz, p_getS_tup, p_getS_frz, p_getL_frz, p_newL, startD, List.map_cons, List.map_nil, List.replicate, List.length_cons, List.length_nil, List.cons_append, List.nil_append, List.append_nil, List.getElem?_cons_zero, List.getElem?_cons_succ, List.set_cons_zero, List.set_cons_succ, assignT, assignT.setAll, Nat.reduceAdd, Nat.reduceSub, Nat.reduceEqDiff, Nat.zero_add, if_true, if_false, Bool.not_true, Bool.not_false, Bool.false_eq_true, Bool.true_eq_false, Bool.not_eq_true, ite_true, ite_false, true_and, and_true]; exact h
end
/-! ### good data: nothing but small leaves -/
def lsh : D → Bool
  | .int i => decide (i.natAbs.log2 < 120)
  | .str s => s.cps.size ≤ 20 && s.cps.toList.all fun c => decide (c < 16 ^ 8)
  | .tup xs => lshs xs
  | _ => true
where
  lshs : List D → Bool
    | [] => true
    | x :: xs => lsh x && lshs xs
def wD : D → Nat
  | .tup xs => 1 + wDs xs
  | _ => 1
where
  wDs : List D → Nat
    | [] => 0
    | x :: xs => wD x + wDs xs
/-- pure, of so many parts at most, nested at most so deep, its leaves short -/
structure Gd (w k : Nat) (d : D) : Prop where
  pu : pureD d = true
  wt : wD d ≤ w
  dp : dep d ≤ k
  sh : lsh d = true
theorem Gd.up {w w' k k' : Nat} {d : D} (h : Gd w k d) (h1 : w ≤ w') (h2 : k ≤ k') : Gd w' k' d := ⟨h.pu, Nat.le_trans h.wt h1, Nat.le_trans h.dp h2, h.sh⟩
theorem Gd.int {i : Int} (h : i.natAbs.log2 < 120) : Gd 1 0 (.int i) := ⟨rfl, Nat.le_refl _, Nat.le_refl _, by simpa [lsh] using h⟩
theorem log_small {i : Int} (h : i.natAbs < 2 ^ 64) : i.natAbs.log2 < 120 := by
  by_cases h0 : i.natAbs = 0
  · rw [h0]; decide
  · exact (Nat.log2_lt h0).mpr (Nat.lt_of_lt_of_le h (Nat.pow_le_pow_right (by decide) (by decide)))
theorem gd_nil : pureDs [] = true ∧ wD.wDs [] = 0 ∧ deps [] = 0 ∧ lsh.lshs [] = true := ⟨rfl, rfl, rfl, rfl⟩
/-- a list of good data -/
structure Gds (w k : Nat) (xs : List D) : Prop where
  pu : pureDs xs = true
  wt : wD.wDs xs ≤ w
  dp : deps xs ≤ k
  sh : lsh.lshs xs = true
theorem Gds.nil {k : Nat} : Gds 0 k [] := ⟨rfl, Nat.le_refl _, Nat.zero_le _, rfl⟩
theorem Gds.cons {w w' k : Nat} {x : D} {xs : List D} (h : Gd w k x) (hs : Gds w' k xs) : Gds (w + w') k (x :: xs) := by
  refine ⟨by simp only [pureDs, Bool.and_eq_true]; exact ⟨h.pu, hs.pu⟩, ?_, ?_, ?_⟩
  · have := h.wt; have := hs.wt; simp only [wD.wDs]; omega
  · have := h.dp; have := hs.dp; simp only [deps]; omega
  · simp only [lsh.lshs, Bool.and_eq_true]; exact ⟨h.sh, hs.sh⟩
theorem Gds.up {w w' k k' : Nat} {xs : List D} (h : Gds w k xs) (h1 : w ≤ w') (h2 : k ≤ k') : Gds w' k' xs := ⟨h.pu, Nat.le_trans h.wt h1, Nat.le_trans h.dp h2, h.sh⟩
theorem Gds.tup {w k : Nat} {xs : List D} (h : Gds w k xs) : Gd (1 + w) (k + 1) (.tup xs) := by
  refine ⟨by simp only [pureD]; exact h.pu, ?_, ?_, ?_⟩
  · have := h.wt; simp only [wD]; omega
  · have := h.dp; simp only [dep]; omega
  · simp only [lsh]; exact h.sh
theorem Gds.all {w k : Nat} : ∀ {xs : List D}, (∀ x ∈ xs, Gd w k x) → Gds (xs.length * w) k xs
  | [], _ => by simpa using Gds.nil
  | x :: xs, h => by
    have := Gds.cons (h x List.mem_cons_self) (Gds.all fun y hy => h y (List.mem_cons_of_mem _ hy))
    refine this.up ?_ (Nat.le_refl _)
    rw [List.length_cons, Nat.succ_mul]; omega
theorem Gds.mem {w k : Nat} : ∀ {xs : List D}, Gds w k xs → ∀ x ∈ xs, Gd w k x
  | [], _, x, hx => by simp at hx
  | y :: ys, h, x, hx => by
    have p := h.pu; have a := h.wt; have b := h.dp; have c := h.sh
    simp only [pureDs, Bool.and_eq_true] at p
    simp only [wD.wDs] at a
    simp only [deps] at b
    simp only [lsh.lshs, Bool.and_eq_true] at c
    rcases List.mem_cons.mp hx with rfl | hx
    · exact ⟨p.1, by omega, by omega, c.1⟩
    · exact Gds.mem ⟨p.2, by omega, by omega, c.2⟩ x hx
theorem Gds.append {w w' k : Nat} : ∀ {xs ys : List D}, Gds w k xs → Gds w' k ys → Gds (w + w') k (xs ++ ys)
  | [], ys, _, h => h.up (by omega) (Nat.le_refl _)
  | x :: xs, ys, h, h' => by
    have p := h.pu; have a := h.wt; have b := h.dp; have c := h.sh
    simp only [pureDs, Bool.and_eq_true] at p
    simp only [wD.wDs] at a
    simp only [deps] at b
    simp only [lsh.lshs, Bool.and_eq_true] at c
    have i1 : Gd (wD x) k x := ⟨p.1, Nat.le_refl _, by omega, c.1⟩
    have i2 : Gds (wD.wDs xs) k xs := ⟨p.2, Nat.le_refl _, by omega, c.2⟩
    exact (Gds.cons i1 (Gds.append i2 h')).up (by omega) (Nat.le_refl _)
/-! the text of good data -/
mutual
theorem show_ok : ∀ d : D, pureD d = true → lsh d = true → (py d).showable = true ∧ (py d).leavesShort 130 = true ∧ (py d).weight + 1 ≤ 121 * wD d
  | .non, _, _ => by simp [py, PyData.showable, PyData.leavesShort, PyData.weight, wD]
  | .bl _, _, _ => by simp [py, PyData.showable, PyData.leavesShort, PyData.weight, wD]
  | .int i, _, h => by
    have h : i.natAbs.log2 < 120 := by simpa [lsh] using h
    refine ⟨by simp only [py, PyData.showable]; exact decide_eq_true (by omega), ?_, ?_⟩
    · simp only [py, PyData.leavesShort, PyData.shown]
      have e := int_text_length_le (k := 120) (by decide) h
      refine decide_eq_true ?_
      show (Str.ofString (toString i)).length ≤ 130
      rw [PySem.ofString_length]; omega
    · simp only [py, PyData.weight, wD]
      split <;> omega
  | .str s, _, h => by
    simp only [lsh, Bool.and_eq_true, decide_eq_true_eq] at h
    refine ⟨by simp only [py, PyData.showable], by simp only [py, PyData.leavesShort]; exact h.2, ?_⟩
    simp only [py, PyData.weight, wD]
    omega
  | .tup xs, hp, h => by
    simp only [pureD] at hp
    simp only [lsh] at h
    obtain ⟨a, b, c⟩ := shows_ok xs hp h
    refine ⟨by simp only [py, PyData.showable]; exact a, by simp only [py, PyData.leavesShort]; exact b, ?_⟩
    simp only [py, PyData.weight, wD]
    omega
  | .frz _, h, _ => by simp [pureD] at h
  | .loc _, h, _ => by simp [pureD] at h
theorem shows_ok : ∀ xs : List D, pureDs xs = true → lsh.lshs xs = true → PyData.showableAll (pys xs) = true ∧ PyData.leavesShortAll 130 (pys xs) = true ∧ PyData.weightAll (pys xs) ≤ 121 * wD.wDs xs
  | [], _, _ => by simp [pys, PyData.showableAll, PyData.leavesShortAll, PyData.weightAll, wD.wDs]
  | x :: xs, hp, h => by
    simp only [pureDs, Bool.and_eq_true] at hp
    simp only [lsh.lshs, Bool.and_eq_true] at h
    obtain ⟨a, b, c⟩ := show_ok x hp.1 h.1
    obtain ⟨a', b', c'⟩ := shows_ok xs hp.2 h.2
    refine ⟨by simp only [pys, PyData.showableAll, a, a', Bool.and_self], by simp only [pys, PyData.leavesShortAll, b, b', Bool.and_self], ?_⟩
    simp only [pys, PyData.weightAll, wD.wDs]
    omega
end
end OC

namespace OC
open PySem PySem.Spec PyProof.Rows L2
variable {P : Prg} (H : HB P)
theorem txt_gd {G : GH} {w k n : Nat} {d : D} (h : Gd w k d) (hw : w ≤ 300) (hk : k < 30) (hn : n ≤ 1000) : txt? G n d = some (py d).shown := by
  obtain ⟨a, b, c⟩ := show_ok d h.pu h.sh
  have e := rs_pure (G := G) 30 d h.pu (by have := h.dp; omega)
  have l := PyData.shown_le 130 (by decide) (py d) b
  have hwt := h.wt
  unfold txt?
  rw [e]
  refine if_pos ⟨a, ?_⟩
  rw [sizeLine_eq]
  have : (py d).weight ≤ 121 * 300 := by
    have : 121 * wD d ≤ 121 * 300 := Nat.mul_le_mul_left _ (by omega)
    omega
  have : (130 + 2) * (py d).weight ≤ 132 * (121 * 300) := Nat.mul_le_mul (by decide) this
  omega
section
variable {n : Nat} {G : GH} {ok : D → GH → Prop} {ex : Str → Option D → GH → Prop}
/-- repr twice -/
theorem p_repr {w k : Nat} {d : D} (hd : Gd w k d) (hw : w ≤ 300) (hk : k < 30) (h : ok (.str (py d).shown) G) : Post (biD .repr [d]) G ok ex := by
  show Post (fun G => (match txt? G 0 d with | some x => .ok (.str x) G | none => .bad)) G ok ex
  unfold Post
  simp only [txt_gd hd hw hk (Nat.zero_le _)]
  exact h
theorem p_eqStr {x : Str} (h : ok (.bl true) G) : Post (cmpD .eq (.str x) (.str x)) G ok ex := by
  refine (p_eqP (a := .str x) (b := .str x) rfl rfl (by show 0 ≤ 63; decide)).mpr ?_
  show ok (.bl (x == x)) G
  rw [beq_self_eq_true]; exact h
/-- a drawn number: of small size too -/
structure Nz (a b : Int) : Prop where
  nm : Nm 6 a b
  sz : a.natAbs < 2 ^ 110
theorem Nz.gd {a b : Int} (h : Nz a b) : Gd 3 1 (nD a b) := by
  have h1 : a.natAbs.log2 < 120 := by
    by_cases h0 : a.natAbs = 0
    · rw [h0]; decide
    · exact (Nat.log2_lt h0).mpr (Nat.lt_of_lt_of_le h.sz (Nat.pow_le_pow_right (by decide) (by decide)))
  have h2 : b.natAbs.log2 < 120 := log_small (by have := h.nm.pos; have := h.nm.le; omega)
  exact (Gds.cons (Gd.int h1) (Gds.cons (Gd.int h2) Gds.nil)).tup
include H in
theorem s_low_sz {top bottom : Int} (hb : 0 < bottom) (hl : bottom < 2 ^ 31) (h : ∀ k m : Int, Nm bottom k m → k.natAbs ≤ top.natAbs → ok (nD k m) G) : Post (callN P (n + 1) 21 [.int top, .int bottom]) G ok ex :=
  s_low H hb hl fun k m hn hx => h k m hn (by
    have e : k.natAbs * bottom.natAbs = top.natAbs * m.natAbs := by rw [← Int.natAbs_mul, ← Int.natAbs_mul, hx]
    have hm : m.natAbs ≤ bottom.natAbs := by have := hn.le; have := hn.pos; omega
    have : k.natAbs * bottom.natAbs ≤ top.natAbs * bottom.natAbs := by rw [e]; exact Nat.mul_le_mul_left _ hm
    exact Nat.le_of_mul_le_mul_right this (by omega))
theorem nz_one {a : Int} (h : a.natAbs < 2 ^ 110) : Nz a 1 := ⟨nm_one, h⟩
theorem great_sz : (10 : Int) ^ 29 + 7 = 100000000000000000000000000007 := by decide
include H in
theorem s_numberZ {s : Nat} (hs : SrcAt s G) (h : ∀ a b G', Nz a b → SrcAt s G' → Kp s G G' → ok (nD a b) G') : Post (callN P (n + 2) 23 [.loc s]) G ok ex := by
  rw [p_call (fn := f__law_number) H.i23 rfl]
  unfold f__law_number
  walk_at "oc stt"
  walk_at "oc hd"
  refine s_draw H hs (by decide) (by decide) fun way G1 w0 w1 hs1 k1 => ?_
  walk_at "oc hd"
  refine s_draw H hs1 (by decide) (by decide) fun top G2 t0 t1 hs2 k2 => ?_
  walk_at "oc hd"
  refine ⟨sz (by decide), ?_⟩
  walk_at "oc hd"
  have k12 := k1.trans k2
  by_cases c1 : way < 4
  · rw [decide_eq_true c1]
    walk_at "oc hd"
    refine ⟨sz (by decide), ?_⟩
    exact h _ _ _ (nz_one (by omega)) hs2 k12
  · rw [decide_eq_false c1]
    walk_at "oc hd"
    by_cases c2 : way < 6
    · rw [decide_eq_true c2]
      walk_at "oc hd"
      · exact small_mul_l (by decide)
      walk_at "oc hd"
      refine s_draw H hs2 (by decide) (by decide) fun f G3 f0 f1 hs3 k3 => ?_
      walk_at "oc hd"
      refine s_low_sz H (by omega) (by omega) fun k m hn hx => ?_
      exact h _ _ _ ⟨hn.mono (by omega), by omega⟩ hs3 (k12.trans k3)
    · rw [decide_eq_false c2]
      walk_at "oc hd"
      refine p_pow.mpr ⟨⟨by decide, by decide, by decide⟩, ?_⟩
      walk_at "oc hd"
      refine s_draw H hs2 (by decide) (by decide) fun f G3 f0 f1 hs3 k3 => ?_
      walk_at "oc hd"
      · exact small_mul_l (by decide)
      walk_at "oc hd"
      · exact small_mul_r (by omega)
      walk_at "oc hd"
      have k13 := k12.trans k3
      have gr : (10 : Int) ^ (29 : Int).toNat + 7 = 100000000000000000000000000007 := by decide
      have gz : ∀ z : Int, z = 100000000000000000000000000007 * (2 * f - 1) → -100000000000000000000000000007 ≤ z ∧ z ≤ 100000000000000000000000000007 := fun z hz => by omega
      generalize hg : ((10 : Int) ^ (29 : Int).toNat + 7) * (2 * f - 1) = great
      rw [gr] at hg
      obtain ⟨g1, g2⟩ := gz great hg.symm
      have big : (100000000000000000000000000100 : Nat) * 4 < 2 ^ 110 := by decide
      by_cases c3 : way = 6
      · rw [show (way == 6) = true by simpa using c3]
        walk_at "oc hd"
        refine ⟨sz (by decide), ?_⟩
        exact h _ _ _ (nz_one (by omega)) hs3 k13
      · rw [show (way == 6) = false by simpa using c3]
        walk_at "oc hd"
        · exact small_mul_l (by decide)
        walk_at "oc hd"
        refine s_low_sz H (by decide) (by decide) fun k m hn hx => ?_
        exact h _ _ _ ⟨hn.mono (by decide), by omega⟩ hs3 k13
def AllZ (xs : List D) : Prop := ∀ x ∈ xs, ∃ a b, x = nD a b ∧ Nz a b
theorem AllZ.toN {xs : List D} (h : AllZ xs) : AllN 6 xs := fun x hx => let ⟨a, b, e, z⟩ := h x hx; ⟨a, b, e, z.nm⟩
theorem ins_sub {found : List D} {x y : D} (h : y ∈ ins found x) : y ∈ found ∨ y = x := by
  unfold ins at h
  split at h
  · exact .inl h
  · simp only [List.mem_append, List.mem_singleton] at h
    rcases h with (h | h) | h
    · exact .inl (cut_mem h)
    · exact .inr h
    · exact .inl (cut_mem h)
theorem srt_sub : ∀ {xs acc : List D} {y : D}, y ∈ xs.foldl ins acc → y ∈ acc ∨ y ∈ xs
  | [], acc, y, h => .inl h
  | x :: xs, acc, y, h => by
    rcases srt_sub (xs := xs) h with h | h
    · rcases ins_sub h with h | h
      · exact .inl h
      · exact .inr (by rw [h]; exact List.mem_cons_self)
    · exact .inr (List.mem_cons_of_mem _ h)
include H in
theorem s_constantsZ {s : Nat} {m : Nat} (hm : m ≤ 5) (hs : SrcAt s G) (h : ∀ ds G', AllZ ds → ds.length ≤ m → SrcAt s G' → Kp s G G' → ok (.tup ds) G') : Post (callN P (n + 3) 24 [.loc s, .int (m : Int)]) G ok ex := by
  rw [p_call (fn := f__law_constants) H.i24 rfl]
  unfold f__law_constants
  walk_at "oc stt"
  walk_at "oc hd"
  refine s_draw H hs (by omega) (by omega) fun f G1 f0 f1 hs1 k1 => ?_
  walk_at "oc hd"
  refine ⟨by constructor <;> omega, ?_⟩
  have hne : G1.length ≠ s := by have := hs1.lt; omega
  refine comp_go (fun i acc G' => SrcAt s G' ∧ Kp s G1 G' ∧ AllZ acc ∧ acc.length ≤ i) ⟨hs1.app, Kp.app, by simp [AllZ], Nat.le_refl _⟩ get1 ?_ ?_
  · rintro i x acc G' hi hl ⟨i1, i2, i3, i4⟩
    refine ⟨rfl, ?_⟩
    refine p_turn0.mpr ?_
    dsimp only [wipeD, List.map_cons, List.map_nil, assignT, List.set_cons_zero, List.set_cons_succ]
    walk_at "oc hd"
    refine s_numberZ H i1 fun a b G2 hn hs2 k2 => ?_
    have hi3 : i < m := by
      have := (List.getElem?_eq_some_iff.mp hi).1
      rw [rng_len] at this; omega
    refine ⟨k2.get hl hne, by rw [sizeLine_eq]; omega, hs2.set hne, (i2.trans k2).setNew (Nat.le_refl _), fun y hy => ?_, by simp; omega⟩
    rcases List.mem_append.mp hy with hy | hy
    · exact i3 y hy
    · rw [List.mem_singleton.mp hy]; exact ⟨a, b, rfl, hn⟩
  · rintro acc G' hl ⟨i1, i2, i3, i4⟩
    refine ⟨rfl, ?_⟩
    rw [rng_len] at i4
    walk_at "oc hd"
    refine s_sorted H (B := 6) (by decide) hl (AllZ.toN i3) (by omega) fun t r hr hrl => ?_
    walk_at "oc hd"
    refine (p_getS_loc hr).mpr ?_
    refine h _ _ (fun y hy => ?_) ?_ i1.app ((k1.trans i2).trans Kp.app)
    · rcases srt_sub hy with z | z
      · simp at z
      · exact i3 y z
    · have := srt_len acc []
      simp at this
      unfold srt; omega
end
theorem p_raiseF {c : Calls} {σ : Env'} {G : GH} {okF : Fl → GH → Prop} {ex : Str → Option D → GH → Prop} {cl fl : Str} {e : IE} (h : Post (den c e σ) G (fun d G1 => (∀ s, d ≠ .str s) ∧ (∃ x, txt? G1 1000 d = some x) ∧ okF (.xn cl (some (.tup [.str fl, d])) σ) G1) (fun x f G1 => okF (.xn x f σ) G1)) :
    Post (denS c (.raiseF cl fl e) σ) G okF ex := by
  show Post (within (den c e σ) σ fun d => fun G => (match (match d with | .str _ => none | d => txt? G 1000 d) with
    | some _ => .ok (.xn cl (some (.tup [.str fl, d])) σ) G
    | none => .bad)) G okF ex
  rw [p_within]
  refine h.mono (fun d G1 q => ?_) fun _ _ _ z => z
  obtain ⟨q1, ⟨x, q2⟩, q3⟩ := q
  unfold Post
  cases d with
  | str s => exact (q1 s rfl).elim
  | _ => simp only [q2]; exact q3
theorem p_asH {c : Calls} {σ : Env'} {G : GH} {okF : Fl → GH → Prop} {ex : Str → Option D → GH → Prop} {x fl : Str} {i t : Nat} {d : D} {hs : IHs} (hi : i < σ.length) (h : okF (.nx ((σ.set t (some d)).set i none)) G) :
    Post (denH c (.as x i fl t hs) x (some (.tup [.str fl, d])) σ) G okF ex := by
  show Post (if x = x then (match (some (.tup [.str fl, d]) : Option D) with | some (.tup [.str g, d]) => (if g = fl ∧ i < σ.length then mret (Fl.nx ((σ.set t (some d)).set i none)) else mbad) | _ => mbad) else denH c hs x (some (.tup [.str fl, d])) σ) G okF ex
  rw [if_pos rfl]
  dsimp only
  rw [if_pos ⟨rfl, hi⟩]
  exact h
end OC

namespace OC
open PySem PySem.Spec PyProof.Rows L2
variable {P : Prg} {T : Tab} {n : Nat}
abbrev tS (P : Prg) (n : Nat) (X : Cx) (W : WX) (s : IS) : TS := tSt X.K X.mg W (denS (callN P n) s)
abbrev tSs (P : Prg) (n : Nat) (X : Cx) (W : WX) (ss : ISs) : TS := tSt X.K X.mg W (denSs (callN P n) ss)
def OkS (P : Prg) (T : Tab) (n : Nat) (is : IS) : Prop := ∀ (C : SC) (X : Cx) (W : WX) (s : Stmt), SX P T n C X → Takes X W → ckS T C is s = true → PS X s (tS P n X W is)
def OkSs (P : Prg) (T : Tab) (n : Nat) (is : ISs) : Prop := ∀ (C : SC) (X : Cx) (W : WX) (s : List Stmt), SX P T n C X → Takes X W → ckSs T C is s = true → PSs X s (tSs P n X W is)
section
variable {C : SC} {X : Cx} {W : WX}
theorem key_set {t : IT} {e : IE} {Dn : Ends} {σ : L2.St} {H : Hp} (q : tS P n X W (.set t e) Dn σ H) : tAsg (tE P n X W e) (gI X.K t) Dn σ H := by
  obtain ⟨ρ, G, dσ, S, hs, q⟩ := q
  have q : Post (within (den (callN P n) e dσ) dσ fun d => (match assignT t d dσ with | some σ1 => mret (.nx σ1) | none => mbad)) G (OutS X.K X.mg W Dn ρ H) noex := q
  refine tI_in S hs Ext.refl q fun d G1 v H1 ρ1 q1 S1 e1 r1 => ?_
  cases ea : assignT t d dσ with
  | none => rw [ea] at q1; exact q1.mbad.elim
  | some dσ1 =>
    rw [ea] at q1
    exact ⟨ρ1, d, dσ, dσ1, r1, hs.ext e1, ea, fun σ' hs' _ => q1.mret σ' H1 ρ1 S1 e1 hs'⟩
theorem gI_nm {i : Nat} {v : V} {σ : L2.St} {H : Hp} {Q : L2.St → Hp → Prop} (h : gI X.K (.nm i) v σ H Q) : gName i v σ H Q := by
  obtain ⟨ρ, d, dσ, dσ', rv, rs, ha, k⟩ := h
  have ha : some (dσ.set i (some d)) = some dσ' := ha
  cases ha
  exact k _ (rs.set rv) fun vs hv => wipe_set (hv i (by simp [itSlots]))
theorem set_tup (h : SX P T n C X) {t : IT} {e : IE} {ts : List Expr} {kt : Nat} {pt pos : Pos} {v : Expr} (hn : noComp v = true) (hw : swNone C ts v = true) (ht : ckT C t (.Tuple ts kt pt) = true) (he : PE X v (tE P n X W e)) :
    PS X (.Assign [.Tuple ts kt pt] v pos) (tS P n X W (.set t e)) :=
  ps_imp (ps_asg he (pg_I (P := P) (T := T) (n := n) h ht) (show swapsWith v (some (.Tuple ts kt pt)) pos.line X.env = pure false from sw_plain hn) (swNone_ok h.scope hw) rfl) fun Dn σ H q => key_set q
theorem any_star {f : Expr → Bool} (hf : ∀ e, notStar e = true → f e = false) : ∀ {l : List Expr}, (∀ e ∈ l, notStar e = true) → l.any f = false
  | [], _ => rfl
  | e :: l, h => by
    rw [List.any_cons, hf e (h e List.mem_cons_self), any_star hf fun x hx => h x (List.mem_cons_of_mem _ hx)]; rfl
theorem par_ok {kindOf : Scope} {env : Env} {x y : Str} {px py pt : Pos} {kt k2 : Nat} {pt2 : Pos} {a b : Expr} (hk : env.scope.kind = .function) (hx : env.scope.names.lookup x = some .local) (hy : env.scope.names.lookup y = some .local) (hl : (py.line == px.line) = true) (hxy : (x != y) = true)
    (sa : notStar a = true) (sb : notStar b = true) (hf : ([a, b].all (foldedForSure 8)) = false) (hc : ([a, b].all (constantsAlone 8)) = false) :
    swappedStores [.Tuple [.Name x px, .Name y py] kt pt] (.Tuple [a, b] k2 pt2) env = pure (some [x, y]) := by
  have kx : env.kindOf x = some .local := hx
  have ky : env.kindOf y = some .local := hy
  have hb : env.blockKind = .function := by unfold Env.blockKind; rw [hk]; rfl
  have hst : ([a, b].any fun | .Starred .. => true | _ => false) = false := by
    exact any_star (fun e h => by cases e <;> first | rfl | (simp [notStar] at h)) (by simp_all)
  have hxy' : (y == x) = false := by
    have : x ≠ y := by simpa using hxy
    simpa using fun e => this e.symm
  have hxy2 : (x == y) = false := by simpa using hxy
  have pl : (Expr.Name x px).pos = px := rfl
  have hnm : ([Expr.Name x px, Expr.Name y py].filterMap fun
    | .Name id pos => if env.kindOf id == some .local && pos.line == px.line then some id else none
    | _ => none) = [x, y] := by
    rw [List.filterMap_cons_some (b := x) (by show (if (env.kindOf x == some .local && px.line == px.line) = true then some x else none) = some x; rw [kx]; simp),
      List.filterMap_cons_some (b := y) (by show (if (env.kindOf y == some .local && py.line == px.line) = true then some y else none) = some y; rw [ky, hl]; rfl), List.filterMap_nil]
  unfold swappedStores
  split
  · rename_i hh
    have hh : some ([Expr.Name x px, Expr.Name y py], [a, b]) = some _ := hh
    cases hh
    split
    · rename_i hh; exact absurd hh (by simp [hb])
    · split
      · rename_i hh
        have hh := hst.symm.trans hh
        cases hh
      · simp only [hf, hc, List.head?_cons, Option.map_some, Option.getD_some]
        split
        · rename_i hh
          have hh : (fun l : List Str => (l.length != 2 || l.eraseDups.length != l.length)) ([Expr.Name x px, Expr.Name y py].filterMap fun
            | .Name id pos => if env.kindOf id == some .local && pos.line == px.line then some id else none
            | _ => none) = true := hh
          rw [hnm] at hh
          simp [List.eraseDups, List.eraseDupsBy, List.eraseDupsBy.loop, hxy', hxy2] at hh
        · simp only [Bool.false_eq_true, if_false]
          exact congrArg (fun l => (pure (some l) : Sem (Option (List Str)))) hnm
  · rename_i hh
    exact (hh [Expr.Name x px, Expr.Name y py] [a, b] rfl).elim
theorem par_ok3 {kindOf : Scope} {env : Env} {x y z : Str} {px py pz pt : Pos} {kt k2 : Nat} {pt2 : Pos} {a b c : Expr} (hk : env.scope.kind = .function) (hx : env.scope.names.lookup x = some .local) (hy : env.scope.names.lookup y = some .local) (hz : env.scope.names.lookup z = some .local) (hl : (py.line == px.line) = true) (hl2 : (pz.line == px.line) = true) (hxy : (x != y) = true) (hxz : (x != z) = true) (hyz : (y != z) = true)
    (sa : notStar a = true) (sb : notStar b = true) (sc : notStar c = true) (hf : ([a, b, c].all (foldedForSure 8)) = false) (hc : ([a, b, c].all (constantsAlone 8)) = false) :
    swappedStores [.Tuple [.Name x px, .Name y py, .Name z pz] kt pt] (.Tuple [a, b, c] k2 pt2) env = pure (some [x, y, z]) := by
  have kx : env.kindOf x = some .local := hx
  have ky : env.kindOf y = some .local := hy
  have kz : env.kindOf z = some .local := hz
  have hb : env.blockKind = .function := by unfold Env.blockKind; rw [hk]; rfl
  have hst : ([a, b, c].any fun | .Starred .. => true | _ => false) = false := by
    exact any_star (fun e h => by cases e <;> first | rfl | (simp [notStar] at h)) (by simp_all)
  have hxy' : (y == x) = false := by
    have : x ≠ y := by simpa using hxy
    simpa using fun e => this e.symm
  have hxz' : (z == x) = false := by
    have : x ≠ z := by simpa using hxz
    simpa using fun e => this e.symm
  have hyz' : (z == y) = false := by
    have : y ≠ z := by simpa using hyz
    simpa using fun e => this e.symm
  have hxy2 : (x == y) = false := by simpa using hxy
  have pl : (Expr.Name x px).pos = px := rfl
  have hnm : ([Expr.Name x px, Expr.Name y py, Expr.Name z pz].filterMap fun
    | .Name id pos => if env.kindOf id == some .local && pos.line == px.line then some id else none
    | _ => none) = [x, y, z] := by
    rw [List.filterMap_cons_some (b := x) (by show (if (env.kindOf x == some .local && px.line == px.line) = true then some x else none) = some x; rw [kx]; simp),
      List.filterMap_cons_some (b := y) (by show (if (env.kindOf y == some .local && py.line == px.line) = true then some y else none) = some y; rw [ky, hl]; rfl),
      List.filterMap_cons_some (b := z) (by show (if (env.kindOf z == some .local && pz.line == px.line) = true then some z else none) = some z; rw [kz, hl2]; rfl), List.filterMap_nil]
  unfold swappedStores
  split
  · rename_i hh
    have hh : some ([Expr.Name x px, Expr.Name y py, Expr.Name z pz], [a, b, c]) = some _ := hh
    cases hh
    split
    · rename_i hh; exact absurd hh (by simp [hb])
    · split
      · rename_i hh
        have hh := hst.symm.trans hh
        cases hh
      · simp only [hf, hc, List.head?_cons, Option.map_some, Option.getD_some]
        split
        · rename_i hh
          have hh : (fun l : List Str => (l.length != 3 || l.eraseDups.length != l.length)) ([Expr.Name x px, Expr.Name y py, Expr.Name z pz].filterMap fun
            | .Name id pos => if env.kindOf id == some .local && pos.line == px.line then some id else none
            | _ => none) = true := hh
          rw [hnm] at hh
          simp [List.eraseDups, List.eraseDupsBy, List.eraseDupsBy.loop, hxy', hxy2, hxz', hyz'] at hh
        · simp only [Bool.false_eq_true, if_false]
          exact congrArg (fun l => (pure (some l) : Sem (Option (List Str)))) hnm
  · rename_i hh
    exact (hh [Expr.Name x px, Expr.Name y py, Expr.Name z pz] [a, b, c] rfl).elim
end
end OC

namespace OC
open PySem PySem.Spec PyProof.Rows L2
variable {P : Prg} {T : Tab} {n : Nat}
section
variable {C : SC} {X : Cx} {W : WX}
theorem at_ok {i : Nat} {x : Str} (h : SX P T n C X) (g : (match C.N[i]? with | some y => y == x | none => false) = true) : X.N[i]? = some x := h.at g
theorem par_loc (h : SX P T n C X) {x : Str} {p : Pos} {l : Nat} (g : parOk C x p l = true) : X.env.scope.names.lookup x = some .local ∧ (p.line == l) = true := by
  unfold parOk kindB at g
  rw [h.scope]
  exact ⟨beq_iff_eq.mp (and2 g).1, (and2 g).2⟩
/-- name = [.. for ..] -/
theorem set_comp (h : SX P T n C X) {i : Nat} {x : Str} {px spos : Pos} {e : IE} {el tg iter : Expr} {ifs : List Expr} {scope : Scope} {p : Pos} (tk : Takes X W) (hi : (match C.N[i]? with | some y => y == x | none => false) = true) (hl : kindB C.sc x .local = true)
    (hln : (px.line == p.line) = true) (ha : (scope.names.any fun (n, k) => n == x && (k == .local || k == .cell)) = false) (hc : ckE T C e (.ListComp el [⟨tg, iter, ifs, 0⟩] scope p) = true) :
    PS X (.Assign [.Name x px] (.ListComp el [⟨tg, iter, ifs, 0⟩] scope p) spos) (tS P n X W (.set (.nm i) e)) := by
  have hx : X.env.scope.names.lookup x = some .local := by rw [h.scope]; exact beq_iff_eq.mp hl
  cases e with
  | comp own elt t it cond =>
    simp only [ckE] at hc
    have h1 := and2 hc
    have h2 := and2 h1.1
    have h3 := and2 h2.1
    have h4 := and2 h3.1
    have h5 := and2 h4.1
    have h6 := and2 h5.1
    have hsl := of_decide_eq_true h5.2
    obtain ⟨I1, I2⟩ := okI (P := P) (T := T) (n := n) it C X W tg iter h tk h4.2
    refine ps_kind fun hk => ?_
    refine ps_imp (ps_setLc (tt := tCond X.K X.mg (callN P n) cond) (g := gI X.K t) (te := tI X.K X.mg Wf (den (callN P n) elt)) (h.calm h6.1).1 h.nd' (h.at hi) hx (sw_true hk hx hln ha) I1 (blkOk_by (by rw [h.N, h.scope]; exact h6.2)) (fun s H c cl fp => ?_) (fun s H c cl fp => ?_) (fun s H c cl fp => ?_) I2) fun Dn σ H q => ?_
    · exact pg_I (X := X.blk s H scope (compEnvC scope cl c X.env) fp) (P := P) (T := T) (n := n) h.blk h3.2
    · cases ifs with
      | nil =>
        cases cond with
        | none => exact pts_nil
        | some e => simp at h1
      | cons c0 ifs =>
        cases ifs with
        | nil =>
          cases cond with
          | none => simp at h1
          | some e =>
            have h7 : ckO T (C.blk scope) (.some e) (some c0) = true := by simpa using h1.2
            exact pts_one ((okO (P := P) (T := T) (n := n) (.some e) _ _ Wf (some c0) h.blk takes_none5 h7).2 e c0 rfl rfl).2
        | cons c1 ifs => simp at h1
    · exact (okE elt _ _ Wf el (h.blk) takes_none5 h2.2).1
    · exact comp_read (σ := σ) (Q := fun x H1 => gName i x σ H1 Dn.nx) hsl (by
        have q1 := key_set q
        obtain ⟨ρ, G, dσ, S, hs, q1⟩ := q1
        exact ⟨ρ, G, dσ, S, hs, q1.mono (fun d G1 w => fun v H' ρ' S' e' r' => gI_nm (w v H' ρ' S' e' r')) fun _ _ _ z => z⟩)
  | _ => simp [ckE] at hc
theorem set_nm (h : SX P T n C X) {i : Nat} {x : Str} {px spos : Pos} {e : IE} {v : Expr} (hi : (match C.N[i]? with | some y => y == x | none => false) = true) (hs : stoB C x = true) (hn : noComp v = true) (he : PE X v (tE P n X W e)) :
    PS X (.Assign [.Name x px] v spos) (tS P n X W (.set (.nm i) e)) := by
  obtain ⟨l1, l2⟩ := h.sto hs
  refine ps_imp (ps_set (i := i) h.nd' (h.at hi) l1 he (sw_plain hn) l2) fun Dn σ H q => ?_
  obtain ⟨ρ, G, dσ, S, hs, q1⟩ := key_set q
  exact ⟨ρ, G, dσ, S, hs, q1.mono (fun d G1 w => fun v H' ρ' S' e' r' => gI_nm (w v H' ρ' S' e' r')) fun _ _ _ z => z⟩
theorem key_par2 {i j : Nat} {es : IEs} {Dn : Ends} {σ : L2.St} {H : Hp} (hl : lenEs es = 2) (q : tS P n X W (.set (.tup [i, j]) (.tup es)) Dn σ H) : tPar i j (tEs P n X W es) Dn σ H := by
  obtain ⟨ρ, G, dσ, S, hs, q⟩ := q
  have q : Post (within (denEs (callN P n) es dσ >>= mkT) dσ fun d => (match assignT (.tup [i, j]) d dσ with | some σ1 => mret (.nx σ1) | none => mbad)) G (OutS X.K X.mg W Dn ρ H) noex := q
  refine tIs_of (ρ0 := ρ) (H0 := H) S hs Ext.refl ((denEs_len q.within.bind).mono (fun _ _ z => z) fun c v G1 z => xw (ρ0 := ρ) (H0 := H) hs z) fun ds G1 vs H1 ρ1 q1 S1 e1 r1 => ?_
  obtain ⟨q1, l1⟩ := q1
  rw [hl] at l1
  match ds, l1, r1, q1 with
  | [d1, d2], _, r1, q1 =>
    obtain ⟨v1, w1, rfl, k1, v2, w2, rfl, k2, z⟩ := r1
    cases z
    refine ⟨v1, v2, rfl, ?_⟩
    have q1 : Post (match assignT (.tup [i, j]) (.tup [d1, d2]) dσ with | some σ1 => mret (Fl.nx σ1) | none => mbad) G1 (OutS X.K X.mg W Dn ρ H) noex := by
      unfold mkT at q1
      have hz : [d1, d2].length ≤ sizeLine := by rw [sizeLine_eq]; exact Nat.le_of_ble_eq_true rfl
      rw [if_pos hz] at q1
      exact q1
    have q2 : OutS X.K X.mg W Dn ρ H (.nx ((dσ.set i (some d1)).set j (some d2))) G1 := q1
    exact q2 _ H1 ρ1 S1 e1 (((hs.ext e1).set k1).set k2)
theorem key_par3 {i j l : Nat} {es : IEs} {Dn : Ends} {σ : L2.St} {H : Hp} (hl : lenEs es = 3) (q : tS P n X W (.set (.tup [i, j, l]) (.tup es)) Dn σ H) : tPar3 i j l (tEs P n X W es) Dn σ H := by
  obtain ⟨ρ, G, dσ, S, hs, q⟩ := q
  have q : Post (within (denEs (callN P n) es dσ >>= mkT) dσ fun d => (match assignT (.tup [i, j, l]) d dσ with | some σ1 => mret (.nx σ1) | none => mbad)) G (OutS X.K X.mg W Dn ρ H) noex := q
  refine tIs_of (ρ0 := ρ) (H0 := H) S hs Ext.refl ((denEs_len q.within.bind).mono (fun _ _ z => z) fun c v G1 z => xw (ρ0 := ρ) (H0 := H) hs z) fun ds G1 vs H1 ρ1 q1 S1 e1 r1 => ?_
  obtain ⟨q1, l1⟩ := q1
  rw [hl] at l1
  match ds, l1, r1, q1 with
  | [d1, d2, d3], _, r1, q1 =>
    obtain ⟨v1, w1, rfl, k1, v2, w2, rfl, k2, v3, w3, rfl, k3, z⟩ := r1
    cases z
    refine ⟨v1, v2, v3, rfl, ?_⟩
    have q1 : Post (match assignT (.tup [i, j, l]) (.tup [d1, d2, d3]) dσ with | some σ1 => mret (Fl.nx σ1) | none => mbad) G1 (OutS X.K X.mg W Dn ρ H) noex := by
      unfold mkT at q1
      have hz : [d1, d2, d3].length ≤ sizeLine := by rw [sizeLine_eq]; exact Nat.le_of_ble_eq_true rfl
      rw [if_pos hz] at q1
      exact q1
    have q2 : OutS X.K X.mg W Dn ρ H (.nx (((dσ.set i (some d1)).set j (some d2)).set l (some d3))) G1 := q1
    exact q2 _ H1 ρ1 S1 e1 ((((hs.ext e1).set k1).set k2).set k3)
theorem swNone_false {ts vs : List Expr} {k : Nat} {p : Pos} (h : ¬ swNone C ts (.Tuple vs k p) = true) : vs.all (foldedForSure 8) = false := by
  unfold swNone at h
  simp only [Bool.or_eq_true, not_or] at h
  simpa using h.1.2
theorem ok_set (t : IT) (e : IE) : OkS P T n (.set t e) := by
  intro C X W s h tk hc
  simp only [ckS] at hc
  split at hc
  · rename_i tg v spos
    unfold setB at hc
    split at hc
    · rename_i i x px
      have h1 := and2 hc
      have h2 := and2 h1.1
      have h3 := and2 h2.1
      have h0 := h1.2
      split at h0
      · rename_i el tg iter ifs scope p
        have h4 := and2 h0
        have h5 := and2 h4.1
        exact set_comp h tk h3.1 h5.1 h5.2 (by simpa using h4.2) h2.2
      · exact set_nm h h3.1 h3.2 h0 (okE e C X W _ h tk h2.2).1
    · rename_i i j x px y py kt pt
      split at hc
      · rename_i es a b k2 pt2
        split at hc
        · rename_i hw
          exact set_tup h rfl hw (and2 hc).1 (okE _ C X W _ h tk (and2 hc).2).1
        · rename_i hw
          simp only [Bool.and_eq_true] at hc
          obtain ⟨⟨⟨⟨⟨⟨⟨⟨c1, c2⟩, c3⟩, c4⟩, c5⟩, c6⟩, c7⟩, c8⟩, c9⟩ := hc
          have A := okEs (P := P) (T := T) (n := n) es C X W _ h tk c8
          have st := A.star
          obtain ⟨x1, x2⟩ := par_loc h c4
          obtain ⟨y1, y2⟩ := par_loc h c5
          refine ps_kind fun hk => ps_imp (ps_par (h.calm c1).1 h.nd' (h.at c6) (h.at c7) (of_decide_eq_true c2) x1 y1 A.pa
            (par_ok (kindOf := C.sc) hk x1 y1 y2 c3 (st a (by simp)) (st b (by simp)) (swNone_false hw) (by rw [Bool.not_eq_true'] at c9; exact c9)) rfl) fun Dn σ H q => key_par2 (by have := ckEs_len c8; simpa using this.symm) q
      · have h1 := and2 hc
        have h2 := and2 h1.1
        have h3 := and2 h2.1
        exact set_tup h h3.1 h3.2 h2.2 (okE e C X W _ h tk h1.2).1
    · rename_i i j l x px y py z pz kt pt
      split at hc
      · rename_i es a b c k2 pt2
        split at hc
        · rename_i hw
          exact set_tup h rfl hw (and2 hc).1 (okE _ C X W _ h tk (and2 hc).2).1
        · rename_i hw
          simp only [Bool.and_eq_true] at hc
          obtain ⟨⟨⟨⟨⟨⟨⟨⟨⟨⟨⟨⟨⟨⟨c1, c2⟩, c2b⟩, c2c⟩, c3⟩, c3b⟩, c3c⟩, c4⟩, c5⟩, c5b⟩, c6⟩, c7⟩, c7b⟩, c8⟩, c9⟩ := hc
          have A := okEs (P := P) (T := T) (n := n) es C X W _ h tk c8
          have st := A.star
          obtain ⟨x1, x2⟩ := par_loc h c4
          obtain ⟨y1, y2⟩ := par_loc h c5
          obtain ⟨z1, z2⟩ := par_loc h c5b
          refine ps_kind fun hk => ps_imp (ps_par3 (h.calm c1).1 h.nd' (h.at c6) (h.at c7) (h.at c7b) (of_decide_eq_true c2) (of_decide_eq_true c2b) (of_decide_eq_true c2c) x1 y1 z1 A.pa
            (par_ok3 (kindOf := C.sc) hk x1 y1 z1 y2 z2 c3 c3b c3c (st a (by simp)) (st b (by simp)) (st c (by simp)) (swNone_false hw) (by rw [Bool.not_eq_true'] at c9; exact c9)) rfl) fun Dn σ H q => key_par3 (by have := ckEs_len c8; simpa using this.symm) q
      · have h1 := and2 hc
        have h2 := and2 h1.1
        have h3 := and2 h2.1
        exact set_tup h h3.1 h3.2 h2.2 (okE e C X W _ h tk h1.2).1
    · have h1 := and2 hc
      have h2 := and2 h1.1
      have h3 := and2 h2.1
      exact set_tup h h3.1 h3.2 h2.2 (okE e C X W _ h tk h1.2).1
    · simp at hc
  · simp at hc
end
end OC

namespace OC
open PySem PySem.Spec PyProof.Rows L2
variable {P : Prg} {T : Tab} {n : Nat}
section
variable {C : SC} {X : Cx} {W : WX}
theorem ok_setI (o i e : IE) : OkS P T n (.setI o i e) := by
  intro C X W s h tk hc
  simp only [ckS] at hc
  split at hc
  · rename_i l r pt v pos
    have h1 := and2 hc
    have h2 := and2 h1.1
    have h3 := and2 h2.1
    have A := (okE (P := P) (T := T) (n := n) e C X W _ h tk h1.2).1
    have L := (okE (P := P) (T := T) (n := n) o C X W _ h tk h3.2).1
    have R := (okE (P := P) (T := T) (n := n) i C X W _ h tk h2.2).1
    refine ps_imp (ps_asg A (pg_sub L R set_list (by intro v; cases r <;> first | rfl | (simp [notSlice] at h3))) (show swapsWith v (some (.Subscript l r pt)) pos.line X.env = pure false from sw_other rfl) swOther_ok rfl) fun Dn σ H q => ?_
    obtain ⟨ρ, G, dσ, S, hs, q⟩ := q
    have q : Post (within (den (callN P n) e dσ) dσ fun d => within (den (callN P n) o dσ) dσ fun x => within (den (callN P n) i dσ) dσ fun y => fun G =>
      (match x, y with
      | .loc l, .int k => (match G[l]? with
        | some (.lst xs) => (match ixN xs.length k with
          | some j => .ok (.nx dσ) (G.set l (.lst (xs.set j d)))
          | none => .bad)
        | _ => .bad)
      | _, _ => .bad)) G (OutS X.K X.mg W Dn ρ H) noex := q
    refine tI_in S hs Ext.refl q fun d G1 v H1 ρ1 q1 S1 e1 r1 => ?_
    refine tI_in S1 (hs.ext e1) e1 q1 fun x G2 xv H2 ρ2 q2 S2 e2 r2 => ?_
    refine tI_in S2 ((hs.ext e1).ext e2) (e1.trans e2) q2 fun y G3 yv H3 ρ3 q3 S3 e3 r3 => ?_
    unfold Post at q3
    cases x with
    | loc l =>
      cases y with
      | int k =>
        simp only at q3
        cases eg : G3[l]? with
        | none => rw [eg] at q3; exact q3.elim
        | some g =>
          obtain ⟨xs⟩ := g
          rw [eg] at q3
          simp only at q3
          cases ex : ixN xs.length k with
          | none => rw [ex] at q3; exact q3.elim
          | some j =>
            rw [ex] at q3
            obtain ⟨a, vs, rfl, h5, h6, h7⟩ := repL2 S3 (r2.ext e3) eg
            cases repI r3
            refine ⟨a, vs, k, j, rfl, rfl, h6, by rw [h7.length]; exact ex, ?_⟩
            have xe : Ext X.K ρ3 H3 ρ3 (upd H3 a (.lst (vs.set j v))) := ext_upd (.inr ⟨vs, h6⟩)
            have q4 : OutS X.K X.mg W Dn ρ H (.nx dσ) (G3.set l (.lst (xs.set j d))) := q3
            exact q4 _ _ ρ3 (S3.write h5 h6 (RepVs.set ((r1.ext e2).ext e3) j h7)) (((e1.trans e2).trans e3).trans xe) ((((hs.ext e1).ext e2).ext e3).ext xe)
      | _ => exact q3.elim
    | _ => cases y <;> exact q3.elim
  · simp at hc
theorem pip_of {X : Cx} {o : Op2} (ho : o = .add ∨ o = .sub) : PIp X (opOf o) (fun x y H Q => ∃ i j, x = .int i ∧ y = .int j ∧ Q (.int (match o with | .sub => i - j | _ => i + j)) H) := by
  rcases ho with rfl | rfl
  · exact ip_add
  · exact ip_sub
theorem ok_aug (i : Nat) (o : Op2) (e : IE) : OkS P T n (.aug i o e) := by
  intro C X W s h tk hc
  simp only [ckS] at hc
  split at hc
  · rename_i x px p v pos
    have h1 := and2 hc
    have h2 := and2 h1.1
    have h3 := and2 h2.1
    have h4 := and2 h3.1
    have ho := of_decide_eq_true h4.1
    have hp := of_decide_eq_true (show decide (opOf o = p) = true from h4.2)
    subst hp
    obtain ⟨l1, l2⟩ := h.sto h2.2
    have A := (okE (P := P) (T := T) (n := n) e C X W _ h tk h1.2).1
    refine ps_imp (ps_aug (i := i) h.nd' (h.at h3.2) l1 A (pip_of ho) l2) fun Dn σ H q => ?_
    obtain ⟨ρ, G, dσ, S, hs, q⟩ := q
    have q : Post (match dσ[i]? with
      | some (some x) => within (den (callN P n) e dσ) dσ fun y => within (augD o x y) dσ fun z => mret (.nx (dσ.set i (some z)))
      | _ => mbad) G (OutS X.K X.mg W Dn ρ H) noex := q
    cases ei : dσ[i]? with
    | none => rw [ei] at q; exact q.mbad.elim
    | some od =>
      cases od with
      | none => rw [ei] at q; exact q.mbad.elim
      | some x =>
        rw [ei] at q
        obtain ⟨xv, k1, k2⟩ := hs.get i x ei
        refine ⟨xv, k1, ?_⟩
        refine tI_in S hs Ext.refl q fun y G1 yv H1 ρ1 q1 S1 e1 r1 => ?_
        have q1 := q1.within
        cases x with
        | int a =>
          cases y with
          | int b =>
            cases repI r1
            cases repI k2
            refine ⟨a, b, rfl, rfl, ?_⟩
            rcases ho with rfl | rfl
            · have q2 : OutS X.K X.mg W Dn ρ H (.nx (dσ.set i (some (.int (a + b))))) G1 := q1
              exact q2 _ H1 ρ1 S1 e1 ((hs.ext e1).set rfl)
            · have q2 : OutS X.K X.mg W Dn ρ H (.nx (dσ.set i (some (.int (a - b))))) G1 := q1
              exact q2 _ H1 ρ1 S1 e1 ((hs.ext e1).set rfl)
          | _ => rcases ho with rfl | rfl <;> exact q1.elim
        | _ => rcases ho with rfl | rfl <;> (cases y <;> exact q1.elim)
  · simp at hc
theorem ok_ex (e : IE) : OkS P T n (.ex e) := by
  intro C X W s h tk hc
  simp only [ckS] at hc
  split at hc
  · refine ps_imp (ps_expr (okE (P := P) (T := T) (n := n) e C X W _ h tk (and2 hc).2).1 (sw_plain (and2 hc).1)) fun Dn σ H q => ?_
    obtain ⟨ρ, G, dσ, S, hs, q⟩ := q
    have q : Post (within (den (callN P n) e dσ) dσ fun _ => mret (.nx dσ)) G (OutS X.K X.mg W Dn ρ H) noex := q
    refine tI_in S hs Ext.refl q fun d G1 v H1 ρ1 q1 S1 e1 r1 => ?_
    exact (show OutS X.K X.mg W Dn ρ H (.nx dσ) G1 from q1) σ H1 ρ1 S1 e1 (hs.ext e1)
  · simp at hc
theorem ok_ret (e : IE) : OkS P T n (.ret e) := by
  intro C X W s h tk hc
  simp only [ckS] at hc
  split at hc
  · refine ps_imp (ps_ret (okE (P := P) (T := T) (n := n) e C X W _ h tk hc).1) fun Dn σ H q => ?_
    obtain ⟨ρ, G, dσ, S, hs, q⟩ := q
    have q : Post (within (den (callN P n) e dσ) dσ fun d => mret (.rt d)) G (OutS X.K X.mg W Dn ρ H) noex := q
    refine tI_in S hs Ext.refl q fun d G1 v H1 ρ1 q1 S1 e1 r1 => ?_
    exact (show OutS X.K X.mg W Dn ρ H (.rt d) G1 from q1) v H1 ρ1 S1 e1 r1
  · simp at hc
theorem ok_retN : OkS P T n .retN := by
  intro C X W s h tk hc
  simp only [ckS] at hc
  split at hc
  · refine ps_imp ps_retN fun Dn σ H q => ?_
    obtain ⟨ρ, G, dσ, S, hs, q⟩ := q
    exact (show OutS X.K X.mg W Dn ρ H (.rt .non) G from q) .non H ρ S Ext.refl rfl
  · simp at hc
theorem ok_pass : OkS P T n .pass := by
  intro C X W s h tk hc
  simp only [ckS] at hc
  have key : ∀ Dn σ H, tS P n X W .pass Dn σ H → tNext Dn σ H := fun Dn σ H q => by
    obtain ⟨ρ, G, dσ, S, hs, q⟩ := q
    exact (show OutS X.K X.mg W Dn ρ H (.nx dσ) G from q) σ H ρ S Ext.refl hs
  split at hc
  · exact ps_imp ps_pass key
  · exact ps_imp ps_doc key
  · simp at hc
theorem ok_brk : OkS P T n .brk := by
  intro C X W s h tk hc
  simp only [ckS] at hc
  split at hc
  · refine ps_imp ps_break fun Dn σ H q => ?_
    obtain ⟨ρ, G, dσ, S, hs, q⟩ := q
    exact (show OutS X.K X.mg W Dn ρ H (.bk dσ) G from q) σ H ρ S Ext.refl hs
  · simp at hc
theorem ok_cont : OkS P T n .cont := by
  intro C X W s h tk hc
  simp only [ckS] at hc
  split at hc
  · refine ps_imp ps_continue fun Dn σ H q => ?_
    obtain ⟨ρ, G, dσ, S, hs, q⟩ := q
    exact (show OutS X.K X.mg W Dn ρ H (.ct dσ) G from q) σ H ρ S Ext.refl hs
  · simp at hc
theorem ok_ifs {t : IE} {a b : ISs} (ia : OkSs P T n a) (ib : OkSs P T n b) : OkS P T n (.ifs t a b) := by
  intro C X W s h tk hc
  simp only [ckS] at hc
  split at hc
  · have h1 := and2 hc
    have h2 := and2 h1.1
    refine ps_imp (ps_if (okE (P := P) (T := T) (n := n) t C X W _ h tk h2.1).2 (ia C X W _ h tk h2.2) (ib C X W _ h tk h1.2)) fun Dn σ H q => ?_
    obtain ⟨ρ, G, dσ, S, hs, q⟩ := q
    have q : Post (within (den (callN P n) t dσ) dσ fun x => (match x with
      | .bl true => denSs (callN P n) a dσ
      | .bl false => denSs (callN P n) b dσ
      | _ => mbad)) G (OutS X.K X.mg W Dn ρ H) noex := q
    refine tT_in S hs Ext.refl q (fun d G1 q1 => ?_) fun c G1 H1 ρ1 q1 S1 e1 => ?_
    · cases d with
      | bl c => exact ⟨c, rfl⟩
      | _ => exact q1.mbad.elim
    · cases c with
      | true => exact ⟨ρ1, G1, dσ, S1, hs.ext e1, q1.mono (fun _ _ z => OutS.up e1 z) fun _ _ _ z => z⟩
      | false => exact ⟨ρ1, G1, dσ, S1, hs.ext e1, q1.mono (fun _ _ z => OutS.up e1 z) fun _ _ _ z => z⟩
  · simp at hc
theorem ok_nilS : OkSs P T n .nil := by
  intro C X W s h tk hc
  simp only [ckSs] at hc
  split at hc
  · refine pss_imp pss_nil fun Dn σ H q => ?_
    obtain ⟨ρ, G, dσ, S, hs, q⟩ := q
    exact (show OutS X.K X.mg W Dn ρ H (.nx dσ) G from q) σ H ρ S Ext.refl hs
  · simp at hc
theorem ok_consS {s0 : IS} {ss : ISs} (i0 : OkS P T n s0) (is : OkSs P T n ss) : OkSs P T n (.cons s0 ss) := by
  intro C X W s h tk hc
  simp only [ckSs] at hc
  split at hc
  · have h1 := and2 hc
    refine pss_imp (pss_cons (i0 C X W _ h tk h1.1) (is C X W _ h tk h1.2)) fun Dn σ H q => ?_
    obtain ⟨ρ, G, dσ, S, hs, q⟩ := q
    have q : Post (thenS (denS (callN P n) s0 dσ) fun σ1 => denSs (callN P n) ss σ1) G (OutS X.K X.mg W Dn ρ H) noex := q
    refine ⟨ρ, G, dσ, S, hs, q.thenS.mono (fun fl G1 z => ?_) fun _ _ _ z => z⟩
    cases fl with
    | nx dσ1 => exact fun σ' H' ρ' S' e' r' => ⟨ρ', G1, dσ1, S', r', (show Post (denSs (callN P n) ss dσ1) G1 _ noex from z).mono (fun _ _ y => OutS.up e' y) fun _ _ _ y => y⟩
    | bk dσ1 => exact z
    | ct dσ1 => exact z
    | rt d => exact z
    | xn c f dσ1 => exact z
  · simp at hc
/-! ### for -/
theorem loopG_of {gs : Guard} {turn : D → Env' → M Fl} {x : D} {xs : List D} {σ : Env'} {G : GH} {ok : Fl → GH → Prop} (h : Post (loopG gs turn (x :: xs) σ) G ok noex) :
    chkG gs G = true ∧ Post (turn x σ) G (fun fl G1 => match fl with
      | .nx σ1 => Post (loopG gs turn xs σ1) G1 ok noex
      | .ct σ1 => Post (loopG gs turn xs σ1) G1 ok noex
      | .bk σ1 => ok (.nx σ1) G1
      | .rt d => ok (.rt d) G1
      | .xn c f σ1 => ok (.xn c f σ1) G1) noex := by
  unfold Post loopG at h
  by_cases hg : chkG gs G = true
  · refine ⟨hg, ?_⟩
    simp only [hg, if_true] at h
    unfold Post
    cases e : turn x σ G with
    | bad => rw [e] at h; exact h
    | exn c f G1 => rw [e] at h; exact h
    | ok fl G1 =>
      rw [e] at h
      cases fl <;> exact h
  · simp [hg] at h
theorem loopG_nil {gs : Guard} {turn : D → Env' → M Fl} {σ : Env'} {G : GH} {ok : Fl → GH → Prop} (h : Post (loopG gs turn [] σ) G ok noex) : chkG gs G = true ∧ ok (.nx σ) G := by
  unfold Post loopG at h
  by_cases hg : chkG gs G = true
  · simp only [hg, if_true] at h
    exact ⟨hg, h⟩
  · simp [hg] at h
theorem ok_for {t : IT} {it : II} {b : ISs} (ib : OkSs P T n b) : OkS P T n (.for t it b) := by
  intro C X W s h tk hc
  simp only [ckS] at hc
  split at hc
  · rename_i tg iter xs pos
    have h1 := and2 hc
    have h2 := and2 h1.1
    have h3 := and2 h2.1
    obtain ⟨I1, I2⟩ := okI (P := P) (T := T) (n := n) it C X W tg iter h tk h3.2
    refine ps_imp (ps_for h.po (h.calm h3.1).1 I1 (pg_I (P := P) (T := T) (n := n) h h2.2) (ib C X W _ h tk h1.2) I2) fun Dn σ H q => ?_
    obtain ⟨ρ, G, dσ, S, hs, q⟩ := q
    have q : Post (withinI (denI (callN P n) it dσ) dσ fun src => loopG src.2 (fun x σ1 => (match assignT t x σ1 with | some σ2 => denSs (callN P n) b σ2 | none => mbad)) src.1 dσ) G (OutS X.K X.mg W Dn ρ H) noex := q
    refine ⟨ρ, G, dσ, S, hs, q.withinI.mono (fun src G1 q1 J H1 ρ1 S1 e1 it1 => ?_) fun c v G1 z => xw (ρ0 := ρ) (H0 := H) hs z⟩
    refine ⟨fun i m σ' H' => m = src.1.length - i ∧ i ≤ src.1.length ∧ ∃ ρ' G' dσ', Sto X.K ρ' G' H' ∧ Ext X.K ρ1 H1 ρ' H' ∧ RepS X.K ρ' H' dσ' σ' ∧
      Post (loopG src.2 (fun x σ1 => (match assignT t x σ1 with | some σ2 => denSs (callN P n) b σ2 | none => mbad)) (src.1.drop i) dσ') G' (OutS X.K X.mg W Dn ρ H) noex,
      ⟨src.1.length, by simp, Nat.zero_le _, ρ1, G1, dσ, S1, Ext.refl, hs.ext e1, q1⟩, ?_⟩
    rintro i m σ' H' ⟨rfl, hle, ρ', G', dσ', S', x', hs', q'⟩
    by_cases hlt : i < src.1.length
    · rw [List.drop_eq_getElem_cons hlt] at q'
      obtain ⟨hg, q'⟩ := loopG_of q'
      have st := it1 i ρ' G' H' S' x' hg
      obtain ⟨go, yl⟩ := st.1 src.1[i] (by simp [hlt])
      refine .inr ⟨go, fun σ'' H'' => ∃ ρ'' G'' dσ'', Sto X.K ρ'' G'' H'' ∧ Ext X.K ρ1 H1 ρ'' H'' ∧ RepS X.K ρ'' H'' dσ'' σ'' ∧
        Post (loopG src.2 (fun x σ1 => (match assignT t x σ1 with | some σ2 => denSs (callN P n) b σ2 | none => mbad)) (src.1.drop (i + 1)) dσ'') G'' (OutS X.K X.mg W Dn ρ H) noex,
        fun σ'' H'' hN => ⟨src.1.length - (i + 1), by omega, rfl, hlt, hN⟩, fun x H3 y => ?_⟩
      obtain ⟨S3, x3, r3⟩ := yl x H3 y
      cases ea : assignT t src.1[i] dσ' with
      | none => simp only [ea] at q'; exact q'.mbad.elim
      | some dσ2 =>
        simp only [ea] at q'
        refine ⟨ρ', src.1[i], dσ', dσ2, r3, hs'.ext x3, ea, fun σ2 hs2 hw => ?_⟩
        refine ⟨ρ', G', dσ2, S3, hs2, q'.mono (fun fl G4 z => ?_) fun _ _ _ z => z⟩
        cases fl with
        | nx dσ4 => exact fun σ4 H4 ρ4 S4 e4 r4 => ⟨ρ4, G4, dσ4, S4, (x'.trans x3).trans e4, r4, z⟩
        | ct dσ4 => exact fun σ4 H4 ρ4 S4 e4 r4 => ⟨ρ4, G4, dσ4, S4, (x'.trans x3).trans e4, r4, z⟩
        | bk dσ4 => exact fun σ4 H4 ρ4 S4 e4 r4 => (show OutS X.K X.mg W Dn ρ H (.nx dσ4) G4 from z) σ4 H4 ρ4 S4 (e1.trans ((x'.trans x3).trans e4)) r4
        | rt d => exact fun v H4 ρ4 S4 e4 r4 => (show OutS X.K X.mg W Dn ρ H (.rt d) G4 from z) v H4 ρ4 S4 (e1.trans ((x'.trans x3).trans e4)) r4
        | xn c f dσ4 => exact fun cls d σ4 H4 ρ4 S4 e4 r4 y4 => (show OutS X.K X.mg W Dn ρ H (.xn c f dσ4) G4 from z) cls d σ4 H4 ρ4 S4 (e1.trans ((x'.trans x3).trans e4)) r4 y4
    · have hi : i = src.1.length := by omega
      rw [List.drop_eq_nil_of_le (by omega)] at q'
      obtain ⟨hg, q'⟩ := loopG_nil q'
      exact .inl ⟨(it1 i ρ' G' H' S' x' hg).2 (by omega), (show OutS X.K X.mg W Dn ρ H (.nx dσ') G' from q') σ' H' ρ' S' (e1.trans x') hs'⟩
  · simp at hc
/-! ### raise, try -/
theorem not_str {K : PySem.W.Frag} {ρ : List Addr} {H : Hp} {d : D} {z : Str} (hd : ∀ y, d ≠ .str y) (r : RepV K ρ H d (.str z)) : False := by
  cases d with
  | str y => exact hd y rfl
  | non => cases repN r
  | bl _ => cases repB r
  | int _ => cases repI r
  | tup _ => obtain ⟨_, _, z, _⟩ := repT r; cases z
  | frz _ => obtain ⟨_, _, z, _⟩ := repF r; cases z
  | loc _ => obtain ⟨_, z, _⟩ := repL r; cases z
theorem ok_raise (c : Str) : OkS P T n (.raiseT c) := by
  intro C X W s h tk hc
  simp only [ckS] at hc
  split at hc
  · rename_i x px m j p2 cpos pos
    have h0 := and2 hc
    have h1 := and2 h0.1
    have h2 := and2 h1.1
    have h3 := and2 h2.1
    have ex := beq_iff_eq.mp h3.2
    subst ex
    obtain ⟨g1, g2, g3⟩ := h.gl h2.2
    obtain ⟨E, bmB, B, nid, iid, F, q1, q2, q3, q4, q5⟩ := h.gf.exc x (by simpa using h1.2) (fun fl hm => by
      have := List.all_eq_true.mp h0.2 _ hm
      simp at this)
    refine ps_imp (ps_raise (h.calm h3.1).1 tk (pmk_own F q1 q2 q3 (raises_own q4 q5) g1 g2)) fun Dn σ H q => ?_
    obtain ⟨ρ, G, dσ, S, hs, q⟩ := q
    exact (show OutS X.K X.mg W Dn ρ H (.xn x none dσ) G from q) (.ref E) none σ H ρ S Ext.refl hs ⟨⟨E, q2, rfl⟩, fun y e => by cases e⟩
  · simp at hc
theorem ok_any : OkS P T n .any := by
  intro C X W s h tk hc
  refine ⟨fun pins sh σ H Dn I q => ?_⟩
  obtain ⟨ρ, G, dσ, S, hs, q⟩ := q
  exact q.mbad.elim
theorem ok_raiseF (c fl : Str) (e : IE) : OkS P T n (.raiseF c fl e) := by
  intro C X W s h tk hc
  simp only [ckS] at hc
  split at hc
  · rename_i x px a cpos pos
    have h1 := and2 hc
    have h2 := and2 h1.1
    have h3 := and2 h2.1
    have h4 := and2 h3.1
    have h5 := and2 h4.1
    have ex := beq_iff_eq.mp h5.2
    subst ex
    obtain ⟨g1, g2, g3⟩ := h.gl h4.2
    obtain ⟨C0, F⟩ := h.gf.exf x fl (by simpa using h3.2)
    have A := (okE (P := P) (T := T) (n := n) e C X W _ h tk h1.2).1
    refine ps_imp (ps_raise (h.calm h5.1).1 tk (pmk_exf F h.guards ((h.calm h5.1).2.mono (by omega)) (passes_call tk fun _ _ _ _ z => z.elim) g1 g2 h2.2 (pa1 A h2.2))) fun Dn σ H q => ?_
    obtain ⟨ρ, G, dσ, S, hs, q⟩ := q
    have q : Post (within (den (callN P n) e dσ) dσ fun d => fun G => (match (match d with | .str _ => none | d => txt? G 1000 d) with
      | some _ => .ok (.xn x (some (.tup [.str fl, d])) dσ) G
      | none => .bad)) G (OutS X.K X.mg W Dn ρ H) noex := q
    show tCons (tE P n X W e) tNil σ H _
    refine tI_in S hs Ext.refl q fun d G1 v H1 ρ1 q1 S1 e1 r1 => ?_
    have hd : ∀ y, d ≠ .str y := fun y e => by subst e; exact q1.elim
    have q2 : Post (fun G => (match txt? G 1000 d with
      | some _ => R.ok (.xn x (some (.tup [.str fl, d])) dσ) G
      | none => .bad)) G1 (OutS X.K X.mg W Dn ρ H) noex := by
      cases d with
      | str y => exact (hd y rfl).elim
      | _ => exact q1
    unfold Post at q2
    cases et : txt? G1 1000 d with
    | none => simp only [et] at q2
    | some y =>
      simp only [et] at q2
      obtain ⟨p, dp, k1, k2, k3, k4, k5⟩ := txt_of S1 r1 et
      subst k4
      refine ⟨v, p, rfl, dp, k1, k2, k3, k5, fun z hz => ?_, fun dx hdx => ?_⟩
      · subst hz
        cases dp
        exact not_str hd r1
      · have xe : Ext X.K ρ1 H1 ρ1 (upd H1 dx (.xd [(fl, v)])) := ext_upd (.inl hdx)
        exact q2 (.ref C0) (some dx) σ _ ρ1 (S1.other hdx) (e1.trans xe) ((hs.ext e1).ext xe) ⟨⟨C0, F.gl, rfl⟩, fun z hz => by cases hz; exact ⟨dx, fl, v, d, rfl, rfl, upd_same, r1.ext xe⟩⟩
  · simp at hc
theorem SX.tr (h : SX P T n C X) {pn : List (Addr × Obj)} {xe : Value → Shared → Prop} (po : PassesOwn (model X.prog X.w) X.A X.env xe) : SX P T n C (X.tr pn xe) :=
  ⟨h.gf, h.ff, h.scope, h.N, h.nd, h.fnb, h.calm, h.units, h.guards, h.top, po⟩
theorem SX.suite (h : SX P T n C X) {a : Addr} {pn : List (Addr × Obj)} : SX P T n C.suite (X.suite a pn) :=
  ⟨h.gf, h.ff, h.scope, h.N, h.nd, h.fnb, (fun e => by cases e), h.units, h.guards, (fun e => by cases e), PassesOwn.never⟩
/-- what is shown of the clauses -/
def OkH (P : Prg) (T : Tab) (n : Nat) (hs : IHs) : Prop := ∀ (C : SC) (X : Cx) (hds : List ExceptHandler), SX P T n C X → ckHs T C hs hds = true → ∃ l, HdsOk X hds l ∧
  ∀ (Wout : WX) (Dn : Ends) (ρ0 : List Addr) (H0 : Hp) (c : Str) (f : Option D) (cls : Value) (d : Option Addr) (ρ : List Addr) (G : GH) (dσ : Env') (σ : L2.St) (H : Hp), c ∈ T.excs → Sto X.K ρ G H → Ext X.K ρ0 H0 ρ H → RepS X.K ρ H dσ σ → RepX X.K X.mg ρ H c f cls d →
    Post (denH (callN P n) hs c f dσ) G (OutS X.K X.mg Wout Dn ρ0 H0) noex → wMany X.K Wout Dn l cls d σ H
theorem ok_nilH : OkH P T n .nil := by
  intro C X hds h hc
  simp only [ckHs] at hc
  split at hc
  · refine ⟨[], .nil, fun Wout Dn ρ0 H0 c f cls d ρ G dσ σ H hin S e0 hs rx q => ?_⟩
    exact (show OutS X.K X.mg Wout Dn ρ0 H0 (.xn c f dσ) G from q) cls d σ H ρ S e0 hs rx
  · simp at hc
theorem Post.noXn {m : M Fl} {G : GH} {ok : Fl → GH → Prop} (h : Post (noXn m) G ok noex) : Post m G (fun fl G1 => ok fl G1 ∧ ∀ c f σ, fl ≠ .xn c f σ) noex := by
  unfold Post OC.noXn at h
  unfold Post
  cases e : m G with
  | ok d G1 =>
    rw [e] at h
    cases d with
    | xn c f σ => exact h.elim
    | nx σ => exact ⟨h, fun _ _ _ z => by cases z⟩
    | bk σ => exact ⟨h, fun _ _ _ z => by cases z⟩
    | ct σ => exact ⟨h, fun _ _ _ z => by cases z⟩
    | rt σ => exact ⟨h, fun _ _ _ z => by cases z⟩
  | exn c v G1 => rw [e] at h; exact h
  | bad => rw [e] at h; exact h
theorem OutS.noX {K : PySem.W.Frag} {mg : Str → Option Value} {W W' : WX} {Dn : Ends} {ρ : List Addr} {H : Hp} {fl : Fl} {G : GH} (h : OutS K mg W Dn ρ H fl G) (hn : ∀ c f σ, fl ≠ .xn c f σ) : OutS K mg W' Dn ρ H fl G := by
  cases fl with
  | xn c f σ => exact (hn c f σ rfl).elim
  | nx dσ => exact h
  | bk dσ => exact h
  | ct dσ => exact h
  | rt d => exact h
theorem ok_consH {c0 : Str} {b : ISs} {hs0 : IHs} (ib : OkSs P T n b) (ih : OkH P T n hs0) : OkH P T n (.cons c0 b hs0) := by
  intro C X hds h hc
  simp only [ckHs] at hc
  split at hc
  · rename_i x px xs hpos hds'
    have h1 := and2 hc
    have h2 := and2 h1.1
    have h3 := and2 h2.1
    have h4 := and2 h3.1
    have h5 := and2 h4.1
    have ex := beq_iff_eq.mp h5.1
    subst ex
    cases xs with
    | nil => exact absurd h2.2 (by simp)
    | cons b0 xs =>
      obtain ⟨l, hl, hk⟩ := ih C X hds' h h1.2
      obtain ⟨g1, g2, g3⟩ := h.gl h5.2
      have hin : x ∈ T.excs := by simpa using h4.2
      obtain ⟨E, q2, q3, q4, q5⟩ := h.gf.exn x hin
      refine ⟨(.ref E, fun _ _ _ => tSs P n X Wf b) :: l, .cons ⟨g1, g2, .inl q2⟩ (fun a oe cls d pn hz hf => ib C.suite (X.suite a ((a, oe) :: pn)) Wf _ h.suite takes_none5 h3.2) hl, fun Wout Dn ρ0 H0 c f cls d ρ G dσ σ H hcin S e0 hs rx q => ?_⟩
      obtain ⟨⟨Ec, r1, r2⟩, r3⟩ := id rx
      subst r2
      refine ⟨decide (x = c), h.gf.exm c hcin x hin Ec E r1 q2, fun hb a ha => ?_, fun hb => ?_⟩
      · have e := of_decide_eq_true hb
        have q : Post (if x = c then OC.noXn (denSs (callN P n) b dσ) else denH (callN P n) hs0 c f dσ) G (OutS X.K X.mg Wout Dn ρ0 H0) noex := q
        rw [if_pos e] at q
        exact ⟨ρ, G, dσ, S, hs, q.noXn.mono (fun fl G1 z => OutS.up e0 (OutS.noX z.1 z.2)) fun _ _ _ z => z⟩
      · have e := of_decide_eq_false hb
        have q : Post (if x = c then OC.noXn (denSs (callN P n) b dσ) else denH (callN P n) hs0 c f dσ) G (OutS X.K X.mg Wout Dn ρ0 H0) noex := q
        rw [if_neg e] at q
        exact hk Wout Dn ρ0 H0 c f (.ref Ec) d ρ G dσ σ H hcin S e0 hs rx q
  · simp at hc
theorem ok_asH {c0 fl : Str} {i t : Nat} {hs0 : IHs} : OkH P T n (.as c0 i fl t hs0) := by
  intro C X hds h hc
  simp only [ckHs] at hc
  cases hc
/-- try: .. except X as e: y = e.f -/
theorem ok_try_as {known : List Str} {b : ISs} {c0 fl : Str} {i t : Nat} (ib : OkSs P T n b) : OkS P T n (.try known b (.as c0 i fl t .nil)) := by
  intro C X W s h tk hc
  simp only [ckS] at hc
  split at hc
  · rename_i xs hds pos
    have h1 := and2 hc
    have h2 := and2 h1.1
    have h3 := and2 h2.1
    have h4 := and2 h3.1
    obtain ⟨t1, t2⟩ := h.top h4.1
    have hh := h2.2
    split at hh
    · rename_i x px nm y py z pz g p1 p2 p3
      simp only [Bool.and_eq_true] at hh
      obtain ⟨⟨⟨⟨⟨⟨⟨⟨⟨⟨⟨c1, c2⟩, c3⟩, c4⟩, c5⟩, c6⟩, c7⟩, c8⟩, c9⟩, c10⟩, c11⟩, c12⟩ := hh
      have ex := beq_iff_eq.mp c1
      subst ex
      have eg := beq_iff_eq.mp c5
      subst eg
      have ez := beq_iff_eq.mp c6
      subst ez
      have hit : i ≠ t := of_decide_eq_true c12
      obtain ⟨g1, g2, g3⟩ := h.gl c2
      have hin : x ∈ T.excs := by simpa using c3
      obtain ⟨C0, F⟩ := h.gf.exf x g (by simpa using c4)
      obtain ⟨l1, l2⟩ := h.sto c11
      obtain ⟨v1, v2, v3⟩ := h.vis c9
      have hloc : X.env.kindOf z = some .local := by
        show X.env.scope.names.lookup z = some .local
        rw [h.scope]; exact beq_iff_eq.mp c8
      refine ps_imp (ps_try_as (i := i) (c := .ref C0) (tb := fun W' => tSs P n X W' b) (ts := fun a cls d => tAsg (tXf a cls d C0 g (tVar i)) (gName t)) t1 t2 h.nd' (h.at c7) hloc ⟨g1, g2, .inl F.gl⟩ tk (fun W' pn xe tk' po => ib C (X.tr pn xe) W' _ (h.tr po) tk' h3.2)
        (fun a oe cls d pn hz hf => pss_one (ps_set (i := t) h.nd' (h.at c10) l1 (pe_xf F.xf F.no hz hf (pe_var (X := X.suite a ((a, oe) :: pn)) (i := i) (h.at c7) v1 v2 v3)) rfl l2))) fun Dn σ H q => ?_
      obtain ⟨ρ, G, dσ, S, hs, q⟩ := q
      have q : Post (fun G => (match denSs (callN P n) b dσ G with
        | .ok (.xn cl f σ1) G1 => if known.contains cl then denH (callN P n) (.as x i g t .nil) cl f σ1 G1 else .bad
        | r => r)) G (OutS X.K X.mg W Dn ρ H) noex := q
      refine ⟨ρ, G, dσ, S, hs, ?_⟩
      unfold Post at q ⊢
      cases e : denSs (callN P n) b dσ G with
      | bad => simp only [e] at q
      | exn c v G1 => simp only [e] at q; exact q
      | ok fl2 G1 =>
        simp only [e] at q
        cases fl2 with
        | nx σ1 => exact q
        | bk σ1 => exact q
        | ct σ1 => exact q
        | rt d => exact q
        | xn c f dσ1 =>
          simp only at q
          by_cases hkn : known.contains c = true
          · rw [if_pos hkn] at q
            have hcin : c ∈ T.excs := by
              have := List.all_eq_true.mp h4.2 c (by simpa using hkn)
              simpa using this
            intro cls d σ' H' ρ' S' e' r' y'
            obtain ⟨⟨Ec, r1, r2⟩, r3⟩ := id y'
            subst r2
            refine ⟨decide (x = c), h.gf.exm c hcin x hin Ec C0 r1 F.gl, fun hb a ha => ?_, fun hb => ?_⟩
            · have exc := of_decide_eq_true hb
              subst exc
              have eC : C0 = Ec := by
                have := F.gl.symm.trans r1
                cases this; rfl
              subst eC
              have q : Post (if x = x then (match f with | some (.tup [.str g', d]) => (if g' = g ∧ i < dσ1.length then mret (.nx ((dσ1.set t (some d)).set i none)) else mbad) | _ => mbad) else denH (callN P n) .nil x f dσ1) G1 (OutS X.K X.mg W Dn ρ H) noex := q
              rw [if_pos rfl] at q
              split at q
              · rename_i g' dv _q
                obtain ⟨⟨hg', hlen⟩, q3⟩ := if_post q
                subst hg'
                obtain ⟨dd, nm2, v, y2, k1, k2, k3, k4⟩ := r3 _ rfl
                cases k1
                have hl2 : i < σ'.length := by rw [← r'.len]; exact hlen
                refine ⟨.ref a, ?_, rfl, rfl, dd, _, v, k2, k3, by simp [List.lookup], ?_⟩
                · rw [List.getElem?_set_self hl2]
                have q2 : OutS X.K X.mg W Dn ρ H (.nx ((dσ1.set t (some dv)).set i none)) G1 := q3
                have es : ((σ'.set i (some (.ref a))).set t (some v)).set i none = (σ'.set t (some v)).set i none := by
                  rw [List.set_comm _ _ hit, List.set_set]
                show Dn.nx (((σ'.set i (some (.ref a))).set t (some v)).set i none) H'
                rw [es]
                exact q2 _ H' ρ' S' e' ((r'.set k4).unset)
              · exact q.mbad.elim
            · have exc := of_decide_eq_false hb
              have q : Post (if x = c then (match f with | some (.tup [.str g', d]) => (if g' = g ∧ i < dσ1.length then mret (.nx ((dσ1.set t (some d)).set i none)) else mbad) | _ => mbad) else denH (callN P n) .nil c f dσ1) G1 (OutS X.K X.mg W Dn ρ H) noex := q
              rw [if_neg exc] at q
              exact (show OutS X.K X.mg W Dn ρ H (.xn c f dσ1) G1 from q) (.ref Ec) d σ' H' ρ' S' e' r' y'
          · rw [if_neg hkn] at q
            exact q.elim
    · cases hh
  · simp at hc
theorem ok_try {known : List Str} {b : ISs} {hs0 : IHs} (hna : ∀ c i fl t, hs0 ≠ .as c i fl t .nil) (ib : OkSs P T n b) (ih : OkH P T n hs0) : OkS P T n (.try known b hs0) := by
  intro C X W s h tk hc
  simp only [ckS] at hc
  split at hc
  · rename_i xs hds pos
    have h1 := and2 hc
    have h2 := and2 h1.1
    have h3 := and2 h2.1
    have h4 := and2 h3.1
    obtain ⟨t1, t2⟩ := h.top h4.1
    have hh := h2.2
    obtain ⟨l, hl, hk⟩ := ih C X hds h hh
    cases hds with
    | nil => exact absurd h1.2 (by simp)
    | cons h0 hds =>
      refine ps_imp (ps_try_many (tb := fun W' => tSs P n X W' b) t1 t2 tk (fun W' pn xe tk' po => ib C (X.tr pn xe) W' _ (h.tr po) tk' h3.2) hl) fun Dn σ H q => ?_
      obtain ⟨ρ, G, dσ, S, hs, q⟩ := q
      have q : Post (fun G => (match denSs (callN P n) b dσ G with
        | .ok (.xn cl f σ1) G1 => if known.contains cl then denH (callN P n) hs0 cl f σ1 G1 else .bad
        | r => r)) G (OutS X.K X.mg W Dn ρ H) noex := q
      refine ⟨ρ, G, dσ, S, hs, ?_⟩
      unfold Post at q ⊢
      cases e : denSs (callN P n) b dσ G with
      | bad => simp only [e] at q
      | exn c v G1 => simp only [e] at q; exact q
      | ok fl G1 =>
        simp only [e] at q
        cases fl with
        | nx σ1 => exact q
        | bk σ1 => exact q
        | ct σ1 => exact q
        | rt d => exact q
        | xn c f dσ1 =>
          simp only at q
          by_cases hkn : known.contains c = true
          · rw [if_pos hkn] at q
            have hcin : c ∈ T.excs := by
              have := List.all_eq_true.mp h4.2 c (by simpa using hkn)
              simpa using this
            exact fun cls d σ' H' ρ' S' e' r' y' => hk W Dn ρ H c f cls d ρ' G1 dσ1 σ' H' hcin S' e' r' y' q
          · rw [if_neg hkn] at q
            exact q.elim
  · simp at hc
end
mutual
theorem okS : ∀ s : IS, OkS P T n s
  | .set t e => ok_set t e
  | .setI o i e => ok_setI o i e
  | .aug i o e => ok_aug i o e
  | .ex e => ok_ex e
  | .ret e => ok_ret e
  | .retN => ok_retN
  | .ifs t a b => ok_ifs (okSs a) (okSs b)
  | .for t it b => ok_for (okSs b)
  | .raiseT c => ok_raise c
  | .raiseF c fl e => ok_raiseF c fl e
  | .any => ok_any
  | .try known b (.as c i fl t .nil) => ok_try_as (okSs b)
  | .try known b .nil => ok_try (by intros; simp) (okSs b) (okHs .nil)
  | .try known b (.cons c b2 hs) => ok_try (by intros; simp) (okSs b) (okHs (.cons c b2 hs))
  | .try known b (.as c i fl t (.cons c2 b2 hs)) => ok_try (by intros; simp) (okSs b) (okHs (.as c i fl t (.cons c2 b2 hs)))
  | .try known b (.as c i fl t (.as c2 i2 fl2 t2 hs)) => ok_try (by intros; simp) (okSs b) (okHs (.as c i fl t (.as c2 i2 fl2 t2 hs)))
  | .pass => ok_pass
  | .brk => ok_brk
  | .cont => ok_cont
theorem okSs : ∀ ss : ISs, OkSs P T n ss
  | .nil => ok_nilS
  | .cons s ss => ok_consS (okS s) (okSs ss)
theorem okHs : ∀ hs : IHs, OkH P T n hs
  | .nil => ok_nilH
  | .cons c b hs => ok_consH (okSs b) (okHs hs)
  | .as _ _ _ _ _ => ok_asH
end
end OC

namespace OC
open PySem PySem.Spec PyProof.Rows L2
/-! ### defs -/
def fnSC (fn : Fn) (st : Stmt) : SC := { sc := defScope st, fnB := fun _ => true, N := fn.N, calm := true, top := true }
def scopeB (fn : Fn) (sc : Scope) : Bool :=
  decide (sc.kind = .function) && !sc.isCoroutine && !sc.isGenerator && decide fn.N.Nodup && decide (fn.N.take fn.params.length = fn.params) &&
  fn.params.all (fun x => sc.names.lookup x == some .local || sc.names.lookup x == some .cell) && sc.names.all (fun y => !(y.2 == .free)) && decide (fn.params.length ≤ fn.N.length)
def ckFn (T : Tab) (fn : Fn) (st : Stmt) : Bool := scopeB fn (defScope st) && ckSs T (fnSC fn st) fn.body (defBody st)
theorem scope_of {fn : Fn} {sc : Scope} (h : scopeB fn sc = true) : FnScope fn.N fn.params sc := by
  unfold scopeB at h
  simp only [Bool.and_eq_true] at h
  obtain ⟨⟨⟨⟨⟨⟨⟨h1, h2⟩, h3⟩, h4⟩, h5⟩, h6⟩, h7⟩, h8⟩ := h
  refine ⟨of_decide_eq_true h1, by simpa using h2, by simpa using h3, of_decide_eq_true h4, of_decide_eq_true h5, fun x hx => ?_, fun y hy => ?_⟩
  · have := List.all_eq_true.mp h6 x hx
    simpa using this
  · have := List.all_eq_true.mp h7 y hy
    simpa using this
abbrev fdOf (fn : Fn) (st : Stmt) (kV doc pm : Value) (an : Option Addr) (cdv ct : Value) : FuncData := PySem.W.fnOf fn.name fn.name (defArgs st) (defBody st) (defScope st) .none kV doc pm an cdv ct
/-- a def, called by place -/
def PosB (fn : Fn) (st : Stmt) : Prop := ∀ (kV doc pm : Value) (an : Option Addr) (cdv ct : Value) (us : List Value), us.length = fn.params.length → bindArgs (fdOf fn st kV doc pm an cdv ct) ⟨us, []⟩ = pure (fn.params.zip us)
/-- a def, called by keyword -/
def KwB (fn : Fn) (st : Stmt) (np : Nat) (kws : List Nat) : Prop := ∀ (kV doc pm : Value) (an : Option Addr) (cdv ct : Value) (ks : List Str), kws.map (fun j => fn.params[j]?) = ks.map some → ∀ (us ws zs : List Value), us.length = np → ws.length = kws.length →
  reorder kws us ws = some zs → bindArgs (fdOf fn st kV doc pm an cdv ct) ⟨us, ks.zip ws⟩ = pure (fn.params.zip zs)
/-- what is known of the program's defs: i-th def, its text -/
structure Txt (P : Prg) (T : Tab) (sts : List Stmt) : Prop where
  ck : ∀ (i : Nat) (fn : Fn), P[i]? = some fn → ∃ st, sts[i]? = some st ∧ ckFn T fn st = true ∧ PosB fn st ∧ ∀ np kws, (i, np, kws) ∈ T.kws → KwB fn st np kws
def FunsOk (P : Prg) (sts : List Stmt) (K : PySem.W.Frag) (mg : Str → Option Value) : Prop := ∀ (i : Nat) (fn : Fn) (st : Stmt), P[i]? = some fn → sts[i]? = some st → ∃ f fd, mg fn.name = some (.ref f) ∧ Fun K fn.name fn.name st f fd
section
variable {P : Prg} {T : Tab} {sts : List Stmt} {prog : Program} {w : World} {K : PySem.W.Frag} {mg : Str → Option Value} {base : Heap}
theorem sp_len {c : List D → M D} {np : Nat} {vs : List V} {H : Hp} {Q : VK} {E : XK} (h : spOf K mg c np vs H Q E) : vs.length = np := by
  obtain ⟨ρ, G, ds, S, r, hl, _⟩ := h
  rw [r.length, hl]
theorem start_rep {ρ : List Addr} {H : Hp} {N : List Str} {ds : List D} {vs : List V} (r : RepVs K ρ H ds vs) : RepS K ρ H (startD N.length ds) (L2.start N vs) := by
  have hl := r.length
  refine ⟨by unfold startD L2.start; simp [hl], fun i d q => ?_⟩
  unfold startD at q
  by_cases hi : i < ds.length
  · rw [List.getElem?_append_left (by simpa using hi), List.getElem?_map] at q
    cases e : ds[i]? with
    | none => rw [e] at q; cases q
    | some d' =>
      rw [e] at q; cases q
      obtain ⟨v, h1, h2⟩ := r.get e
      refine ⟨v, ?_, h2⟩
      unfold L2.start
      rw [List.getElem?_append_left (by simpa [hl] using hi), List.getElem?_map, h1]; rfl
  · rw [List.getElem?_append_right (by simpa using hi), List.getElem?_replicate] at q
    split at q <;> cases q
/-- a def by its body, where no text of an object is being made -/
theorem fnG_body {x qual : Str} {st : Stmt} {f : Addr} {fd : FuncData} {N ps : List Str} {k : Nat} {sp : Sp} (F : Fun K x qual st f fd) (S : FnScope N ps (defScope st)) (len : ∀ vs H Q E, sp vs H Q E → vs.length = ps.length)
    (bd : ∀ (cdv : Value) (A : Around) (outer : List Env) (s : Shared) (H : Hp) (vs : List V) (Q : VK) (E : XK), A.guards = some [] → Room k (A.deeper (envOfC qual (defScope st) s.heap.objs.size f cdv)) → sp vs H Q E →
      ∃ t, PSs (cxOf (L2.CX prog w) prog w K mg base N qual (defScope st) f cdv A outer s H E) (defBody st) t ∧ t { nx := fun _ H' => Q .non H', rt := Q } (L2.start N vs) H) :
    FnG prog w K mg base (L2.CX prog w) (k + 1) f fd ps sp := by
  obtain ⟨oc, od, kV, doc, pm, an, cdv, ct, osl, rfl, lk, hcd⟩ := F.ex
  refine ⟨len, fun A outer s H args us vs Q E hg hr e0 hb rv hs => ?_⟩
  have kin : K.In s.heap := e0.mod.kin.keeps fun a o z => (e0.bs a o z).1
  have par : ∀ y ∈ ps.zip us, (defScope st).names.lookup y.1 = some .local ∨ ((defScope st).names.lookup y.1 = some .cell ∧ ((cellsFrom (s.heap.objs.size + 1) (defScope st).names []).lookup y.1).isSome = true) := by
    rintro ⟨y, v⟩ hy
    exact (S.par y (List.of_mem_zip hy).1).imp id fun q => ⟨q, PySem.W.cellsFrom_some _ _ _ (.inl q)⟩
  refine codeAny_call_function hr.depth (kin _ _ lk) rfl S.co S.gen rfl (PySem.W.codeRec_of kin hcd) (hb _ _ _ _ ?_)
  refine wpAny_newFunctionEnv_cells S.kind par fun env henv s1 inC => ?_
  subst henv
  refine ⟨(e0.mod.nolimit.keeps fun a o z => (e0.bs a o z).1).keeps inC.toInCall.keep, codeAny_func ?_⟩
  obtain ⟨t, ht, hq⟩ := bd cdv A outer s H vs Q E hg (hr.deeper _) hs
  have J0 : Inv (cxOf (L2.CX prog w) prog w K mg base N qual (defScope st) f cdv A outer s H E) [] (L2.start N vs) H s1 := L2.inv_start S hr.hd e0 (len _ _ _ _ hs) rv inC
  refine wpAny_mono (ht.run [] s1 (L2.start N vs) H _ J0 hq) (fun fl s' q => ?_) fun _ _ z => z
  cases fl with
  | ret u =>
    obtain ⟨v, σ', H', J, r', q'⟩ := q
    exact ⟨v, H', J.os, J.bare, J.base, J.hok, r', q'⟩
  | next =>
    obtain ⟨σ', H', J, q'⟩ := q
    exact ⟨V.non, H', J.os, J.bare, J.base, J.hok, rfl, q'⟩
  | brk => exact q.elim fun _ z => z.elim fun _ z => z.2.elim
  | cont => exact q.elim fun _ z => z.elim fun _ z => z.2.elim
theorem ff_zero (G : GF P T prog w K mg base) (X : Txt P T sts) (F : FunsOk P sts K mg) : FF P T 0 prog w K mg base := by
  refine ⟨fun i fn hi => ?_⟩
  obtain ⟨st, h1, h2, h3, h4⟩ := X.ck i fn hi
  obtain ⟨f, fd, m1, m2⟩ := F i fn st hi h1
  have FO : FnG prog w K mg base (L2.CX prog w) (0 + 3) f fd fn.params (spOf K mg (callN P 0 i) fn.params.length) := by
    refine ⟨fun vs H Q E h => sp_len h, fun A outer s H args us vs Q E hg hr he hb hv hs => ?_⟩
    obtain ⟨ρ, G, ds, S, r, hl, q⟩ := hs
    exact q.mbad.elim
  refine ⟨f, fd, m1, m2.kp, FO, m2.binds fun kV doc pm an cdv ct us hu => h3 kV doc pm an cdv ct us hu, fun np kws hin ks hks s us ws zs hK hu hw hz => ?_⟩
  obtain ⟨oc, od, kV, doc, pm, an, cdv, ct, osl, rfl, lk, hcd⟩ := m2.ex
  exact .of_eq (h4 np kws hin kV doc pm an cdv ct ks hks us ws zs hu hw hz)
theorem fn_succ {n : Nat} (G : GF P T prog w K mg base) (FFn : FF P T n prog w K mg base) {i : Nat} {fn : Fn} {st : Stmt} {f : Addr} {fd : FuncData} (hi : P[i]? = some fn) (h2 : ckFn T fn st = true) (m2 : Fun K fn.name fn.name st f fd) :
    FnG prog w K mg base (L2.CX prog w) (n + 1 + 3) f fd fn.params (spOf K mg (callN P (n + 1) i) fn.params.length) := by
  have hsc := scope_of (and2 h2).1
  have hck := (and2 h2).2
  refine fnG_body (k := n + 3) m2 hsc (fun vs H Q E h => sp_len h) fun cdv A outer s H vs Q E hg hr h => ?_
  have SXX : SX P T n (fnSC fn st) (cxOf (L2.CX prog w) prog w K mg base fn.N fn.name (defScope st) f cdv A outer s H E) :=
    ⟨G, FFn, rfl, rfl, hsc.nd, fun _ _ => rfl, fun _ => ⟨rfl, hr⟩, by have := hr.un; show (A.deeper _).units + 200 < cLine; omega, hg, fun _ => ⟨rfl, rfl⟩, passes_of rfl⟩
  refine ⟨_, okSs (P := P) (T := T) (n := n) fn.body _ _ (fun cls d _ H => E cls d H) _ SXX (takes_of rfl rfl rfl rfl) hck, ?_⟩
  obtain ⟨ρ, G0, ds, S, r, hl, q⟩ := h
  refine ⟨ρ, G0, startD fn.N.length ds, S, start_rep r, ?_⟩
  unfold Post callN at q
  simp only [hi, hl, if_true] at q
  unfold Post
  cases e : denSs (callN P n) fn.body (startD fn.N.length ds) G0 with
  | bad => simp only [e] at q
  | exn c v G1 => simp only [e] at q
  | ok fl G1 =>
    simp only [e] at q
    cases fl with
    | nx dσ => exact fun σ' H' ρ' S' e' r' => (show Want K ρ H Q .non G1 from q) .non H' ρ' S' e' rfl
    | rt d => exact fun v H' ρ' S' e' r' => (show Want K ρ H Q d G1 from q) v H' ρ' S' e' r'
    | xn c f dσ => exact fun cls d σ' H' ρ' S' e' r' y' => q cls d H' ρ' S' e' y'
    | bk dσ => exact q.elim
    | ct dσ => exact q.elim
theorem ff_succ {n : Nat} (G : GF P T prog w K mg base) (X : Txt P T sts) (F : FunsOk P sts K mg) (FFn : FF P T n prog w K mg base) : FF P T (n + 1) prog w K mg base := by
  refine ⟨fun i fn hi => ?_⟩
  obtain ⟨st, h1, h2, h3, h4⟩ := X.ck i fn hi
  obtain ⟨f, fd, m1, m2⟩ := F i fn st hi h1
  refine ⟨f, fd, m1, m2.kp, fn_succ G FFn hi h2 m2, m2.binds fun kV doc pm an cdv ct us hu => h3 kV doc pm an cdv ct us hu, fun np kws hin ks hks s us ws zs hK hu hw hz => ?_⟩
  obtain ⟨oc, od, kV, doc, pm, an, cdv, ct, osl, rfl, lk, hcd⟩ := m2.ex
  exact .of_eq (h4 np kws hin kV doc pm an cdv ct ks hks us ws zs hu hw hz)
theorem ff_all (G : GF P T prog w K mg base) (X : Txt P T sts) (F : FunsOk P sts K mg) : ∀ n, FF P T n prog w K mg base
  | 0 => ff_zero G X F
  | n + 1 => ff_succ G X F (ff_all G X F n)
end
end OC

namespace OC
open PySem PySem.Spec PyProof.Rows L2
/-! ### a written dict whose keys are pairs of ints -/
structure Pr where
  x : Int
  y : Int
  z : Int
  a : Addr
  h : Int
  t : Tok
  u : Tok
  v : Tok
def prE (p : Pr) : DictEntry := ⟨p.h, .ref p.a, .int p.z p.v⟩
def prD (p : Pr) : D × D := (.tup [.int p.x, .int p.y], .int p.z)
section
variable {prog : Program} {w : World} {K : PySem.W.Frag} {A : Addr}
theorem kd_at {ps : List Pr} {es : Array DictEntry} {ep : Nat} {h : Heap} (X : K.In h) (l : K.lookup A = some ⟨.type "dict", none, .dict es ep, #[]⟩) (he : es.toList = ps.map prE)
    (hh : ∀ p ∈ ps, p.h = tupleKeyHash (PySem.intKind prog w) [p.x, p.y]) (hk : ∀ p ∈ ps, ∃ d n sl, K.lookup p.a = some ⟨.type "tuple", d, .seq #[.int p.x p.t, .int p.y p.u] n, sl⟩) (nd : (ps.map fun p => [p.x, p.y]).Nodup) :
    h.DictKeyed (tupleKind (PySem.intKind prog w)) A (ps.map fun p => ([p.x, p.y], Value.int p.z p.v)) := by
  refine ⟨ps.map fun p => ([p.x, p.y], p.a, Value.int p.z p.v), ⟨_, es, ep, X _ _ l, ⟨rfl, rfl, rfl⟩, rfl, ?_, fun x hx => ?_, ?_⟩, ?_⟩
  · rw [he, List.map_map]
    refine List.map_congr_left fun p hp => ?_
    show (⟨p.h, .ref p.a, .int p.z p.v⟩ : DictEntry) = ⟨tupleKeyHash (PySem.intKind prog w) [p.x, p.y], .ref p.a, .int p.z p.v⟩
    rw [hh p hp]
  · obtain ⟨p, hp, rfl⟩ := List.mem_map.mp hx
    obtain ⟨d, n, sl, e⟩ := hk p hp
    exact ⟨_, _, n, X _ _ e, rfl, rfl, .cons (by simp [PySem.intKind, Value.isInt]) (.cons (by simp [PySem.intKind, Value.isInt]) .nil)⟩
  · rw [List.map_map]; exact nd
  · unfold pairsH
    rw [List.map_map]
    rfl
theorem value_at {ps : List Pr} (nd : (ps.map fun p => [p.x, p.y]).Nodup) {p : Pr} (hp : p ∈ ps) : valueAt (ps.map fun p => ([p.x, p.y], Value.int p.z p.v)) [p.x, p.y] = some (.int p.z p.v) := by
  induction ps with
  | nil => simp at hp
  | cons q ps ih =>
    unfold valueAt
    rw [List.map_cons, List.find?_cons]
    rw [List.map_cons, List.nodup_cons] at nd
    by_cases e : [q.x, q.y] = [p.x, p.y]
    · have hpq : p = q := by
        rcases List.mem_cons.mp hp with z | z
        · exact z
        · exact absurd (List.mem_map.mpr ⟨p, z, e.symm⟩) nd.1
      subst hpq
      simp
    · simp only [e, decide_false]
      refine ih nd.2 ?_
      rcases List.mem_cons.mp hp with z | z
      · subst z; exact absurd rfl e
      · exact z
theorem kd_rule {ps : List Pr} (hk : ∀ h, K.In h → h.DictKeyed (tupleKind (PySem.intKind prog w)) A (ps.map fun p => ([p.x, p.y], Value.int p.z p.v))) (nd : (ps.map fun p => [p.x, p.y]).Nodup) : KDrule prog w K A (ps.map prD) := by
  intro X e1 e2 e3 hu pins s σ H y u Q I ry ⟨ρ, G, b, S, rb, q⟩
  subst e1 e2 e3
  have hd := hk s.heap I.kIn
  refine ⟨hd.typeIs, ?_⟩
  unfold kidxD at q
  cases ef : (ps.map prD).find? (fun p => decide (p.1 = b)) with
  | none => rw [ef] at q; exact q.mbad.elim
  | some p0 =>
    rw [ef] at q
    have hb : p0.1 = b := of_decide_eq_true (show decide (p0.1 = b) = true from List.find?_some (p := fun (p : D × D) => decide (p.1 = b)) ef)
    obtain ⟨p, hp, rfl⟩ := List.mem_map.mp (List.mem_of_find?_eq_some ef)
    subst hb
    obtain ⟨a, vs, rfl, h2, h3⟩ := repT rb
    obtain rfl : u = Value.ref a := ry
    obtain ⟨v1, w1, rfl, k1, v2, w2, rfl, k2, z⟩ := h3
    cases z
    cases repI k1
    cases repI k2
    obtain ⟨its, rv, ⟨o, ho, hc, n, hdat⟩, hz⟩ := I.tuple h2
    cases rv with
    | cons r1 rv =>
      cases rv with
      | cons r2 rv =>
        cases rv
        obtain ⟨t1, rfl⟩ := r1
        obtain ⟨t2, rfl⟩ := r2
        refine getItem_keyed (knd := tupleKind (PySem.intKind X.prog X.w)) (k := [p.x, p.y]) (by show X.A.in1.units < cLine; show X.A.units + 1 < cLine; omega)
          ⟨o, _, n, ho, hc, hdat, .cons (by simp [PySem.intKind, Value.isInt]) (.cons (by simp [PySem.intKind, Value.isInt]) .nil)⟩ hd (value_at nd hp) ?_
        have q2 : Want X.K ρ H Q (.int p.z) G := q
        exact ⟨.int p.z, H, I.tok _, ⟨_, rfl⟩, q2.int S⟩
end
end OC

namespace OC
open PySem PySem.Spec PyProof.Rows L2
/-! ### the end -/
def FnFact (K : PySem.W.Frag) (x : Str) (st : Stmt) : Prop := ∃ (f : Addr) (oc : Value) (od : Option Addr) (kV doc pm : Value) (an : Option Addr) (cd ct : Value) (sl : Array (Option Value)),
  PySem.W.nsIn K mainGlobals x = some (some (.ref f)) ∧ K.lookup f = some ⟨oc, od, .func (PySem.W.fnOf x x (defArgs st) (defBody st) (defScope st) .none kV doc pm an cd ct), sl⟩ ∧ PySem.W.codeIn K cd x = true ∧ PySem.W.keepIn K (.ref f) = true
theorem fnfact {K : PySem.W.Frag} {x : Str} {st : Stmt} {f : Addr} {oc : Value} {od : Option Addr} {kV doc pm : Value} {an : Option Addr} {cd ct : Value} {sl : Array (Option Value)}
    (a : PySem.W.nsIn K mainGlobals x = some (some (.ref f))) (l : K.lookup f = some ⟨oc, od, .func (PySem.W.fnOf x x (defArgs st) (defBody st) (defScope st) .none kV doc pm an cd ct), sl⟩) (c : PySem.W.codeIn K cd x = true) (k : PySem.W.keepIn K (.ref f) = true) : FnFact K x st :=
  ⟨f, oc, od, kV, doc, pm, an, cd, ct, sl, a, l, c, k⟩
def AllF (K : PySem.W.Frag) : List Fn → List Stmt → Prop
  | f :: fs, s :: ss => FnFact K f.name s ∧ AllF K fs ss
  | _, _ => True
theorem funs_of {K : PySem.W.Frag} {h : Heap} {mg : Str → Option Value} (X : K.In h) (G : h.Ns mainGlobals mg) : ∀ {P : Prg} {sts : List Stmt}, AllF K P sts → FunsOk P sts K mg
  | [], sts, _ => fun i fn st h1 h2 => by simp at h1
  | f :: fs, [], _ => fun i fn st h1 h2 => by simp at h2
  | f :: fs, s :: ss, hA => fun i fn st h1 h2 => by
    obtain ⟨hf, hr⟩ := hA
    cases i with
    | zero =>
      have e1 : f = fn := by simpa using h1
      have e2 : s = st := by simpa using h2
      subst e1; subst e2
      obtain ⟨a, oc, od, kV, doc, pm, an, cd, ct, sl, q1, q2, q3, q4⟩ := hf
      exact ⟨a, _, PySem.W.mg_of X G q1, fun_mk q2 q3 q4⟩
    | succ i => exact funs_of X G hr i fn st (by simpa using h1) (by simpa using h2)
theorem exm_pair {K : PySem.W.Frag} {S R : Addr} {b : Bool} (h1 : PySem.W.subIn K (.ref S) (.type "BaseException") = some true) (h2 : PySem.W.isClsIn K S = true) (h3 : PySem.W.typeIn K (.ref S) = some (.type "type")) (h4 : PySem.W.subIn K (.ref R) (.ref S) = some b) :
    PySem.W.exmOne K (.ref R) (.ref S) = some b := by
  have e1 : (PySem.W.subIn K (.ref S) (.type "BaseException") == some true) = true := by rw [h1] <;> rfl
  have e2 : ((PySem.W.clsIn K S).isSome && PySem.W.typeIn K (.ref S) == some (.type "type")) = true := by
    have h2' : (PySem.W.clsIn K S).isSome = true := h2
    rw [h2', h3] <;> rfl
  show (if (PySem.W.subIn K (.ref S) (.type "BaseException") == some true) = true then (if ((PySem.W.clsIn K S).isSome && PySem.W.typeIn K (.ref S) == some (.type "type")) = true then PySem.W.subIn K (.ref R) (.ref S) else none) else none) = some b
  rw [if_pos e1, if_pos e2]
  exact h4
abbrev veB : List Value := [.type "ValueError", .type "Exception", .type "BaseException", .type "object"]
/-- one class of the text -/
structure ExcFact (K : PySem.W.Frag) (x : Str) (C : Addr) : Prop where
  a : PySem.W.nsIn K mainGlobals x = some (some (.ref C))
  e : PySem.W.excIn K C veB "ValueError.__new__" = true
  k : PySem.W.keepIn K (.ref C) = true
  b : PySem.W.subIn K (.ref C) (.type "BaseException") = some true
  t : PySem.W.typeIn K (.ref C) = some (.type "type")
  i : PySem.W.isClsIn K C = true
theorem exc_fact {K : PySem.W.Frag} {h : Heap} {mg : Str → Option Value} (X : K.In h) (G : h.Ns mainGlobals mg) {x : Str} {C : Addr} (F : ExcFact K x C) : ∃ (E : Addr) (bmB : List Value) (B newId initId : String), ExcBaseFacts B newId initId bmB ∧ PySem.W.excIn K E bmB newId = true ∧ mg x = some (.ref E) ∧ PySem.W.keepIn K (.ref E) = true ∧
    PySem.W.subIn K (.ref E) (.type "BaseException") = some true ∧ PySem.W.typeIn K (.ref E) = some (.type "type") :=
  ⟨C, veB, _, _, _, PySem.F.excBase_ValueError, F.e, PySem.W.mg_of X G F.a, F.k, F.b, F.t⟩
/-- the law's promise -/
def spLawK (K : PySem.W.Frag) : Sp := fun vs H Q _ => ∃ (a : Addr) (ns : List Int), vs = [.ref a] ∧ SqF K H a (ns.map V.int) ∧ ns.length ≤ 63 ∧ ∀ H', Q (.bl true) H'
theorem reps_ints {K : PySem.W.Frag} {ρ : List Addr} {H : Hp} : ∀ ns : List Int, RepVs K ρ H (ns.map D.int) (ns.map V.int)
  | [] => rfl
  | n :: ns => ⟨_, _, rfl, rfl, reps_ints ns⟩
theorem law_sp {K : PySem.W.Frag} {mg : Str → Option Value} {c : List D → M D} (PL : ∀ ns : List Int, ns.length ≤ 63 → Post (c [.frz (ns.map D.int)]) [] (fun d _ => d = .bl true) noex) {vs : List V} {H : Hp} {Q : VK} {E : XK} (h : spLawK K vs H Q E) : spOf K mg c 1 vs H Q E := by
  obtain ⟨a, ns, rfl, hS, hl, k⟩ := h
  refine ⟨[], [], [.frz (ns.map D.int)], ⟨rfl, List.nodup_nil, fun i a o h => by simp at h⟩, ⟨_, _, rfl, ⟨a, _, rfl, hS, reps_ints ns⟩, rfl⟩, rfl, (PL ns hl).mono (fun d G hd v H' ρ' S x r => ?_) fun _ _ _ z => z.elim⟩
  subst hd
  rw [repB r]
  exact k H'
/-- the law's def is called at the top: nothing is tracked but the script -/
theorem enterG {prog : Program} {w : World} {K : PySem.W.Frag} {mg mb : Str → Option Value} {k : Nat} {fa a : Addr} {fd : FuncData} {s1 : Shared} {vs : List Value} {ns : List Int}
    (KX : K.In s1.heap) (hns : s1.heap.Ns mainGlobals mg) (hb : s1.heap.Ns builtinsNs mb) (hbb : ∀ x : Str, x ≠ "__name__" → mb x = bootBuiltins x) (hlim : s1.heap.NoLimit) (hg : s1.gens = #[])
    (ha : s1.heap.get? a = some { cls := .type "list", data := .seq vs.toArray }) (hi : IntsAre vs ns) (hl : ns.length ≤ 63) (hr : Room k callerA)
    (F : ∀ base : Heap, K.In base → base.Ns mainGlobals mg → FnG prog w K mg base (L2.CX prog w) k fa fd ["script"] (spLawK K)) (hbind : ∀ (s : Shared) (u : Value), BindsTo s fd ⟨[u], []⟩ [("script", u)]) :
    codeAny (model prog w) callerA (.call (.ref fa) ⟨[.ref a], []⟩) (fun r s' => r = .ok (.ret (.bool true)) ∧ OldK s1.heap s'.heap ∧ s'.os = s1.os ∧ AllBare s'.gens) s1 := by
  have rv := vals_ints hi
  have hz : ns.length ≤ sizeLine := by rw [sizeLine_eq]; omega
  have hz2 : vs.length ≤ sizeLine := by rw [hi.length]; exact hz
  obtain ⟨H, hS, hok, only⟩ : ∃ H : Hp, SqF K H a (ns.map V.int) ∧ HOk prog w H s1.heap ∧ ∀ b u, H b = some u → b = a ∧ K.lookup a = none ∧ ∃ o xs, u = .frz o (.lst xs) := by
    cases hk : K.lookup a with
    | some o =>
      have e := (KX a o hk).symm.trans ha
      cases e
      exact ⟨fun _ => none, .inr ⟨_, vs.toArray, _, hk, rfl, rfl, rfl, by rw [List.size_toArray]; exact hz2, by simpa using rv⟩, fun b u z => (by cases z), fun b u z => (by cases z)⟩
    | none =>
      refine ⟨fun b => if b = a then some (.frz { cls := .type "list", data := .seq vs.toArray } (.lst (ns.map V.int))) else none, .inl ⟨_, if_pos rfl⟩, fun b u z => ?_, fun b u z => ?_⟩
      · by_cases hba : b = a
        · subst hba
          have z := (if_pos rfl).symm.trans z
          cases z
          exact ⟨ha, by rw [List.length_map]; exact hz, vs, _, rv, ha⟩
        · have z := (if_neg hba).symm.trans z
          cases z
      · by_cases hba : b = a
        · have z := (if_pos hba).symm.trans z
          cases z
          exact ⟨hba, rfl, _, _, rfl⟩
        · have z := (if_neg hba).symm.trans z
          cases z
  have free : ∀ {b : Addr} {o : Obj}, s1.heap.get? b = some o → (∀ (its : Array Value) (n : Nat), o.data ≠ .seq its n) → H b = none := fun {b o} e d => by
    cases q : H b with
    | none => rfl
    | some u =>
      obtain ⟨rfl, _⟩ := only b u q
      rw [ha] at e; cases e
      exact (d _ _ rfl).elim
  have nsK : ∀ {b : Addr} {m : Str → Option Value}, s1.heap.Ns b m → (hidT s1.heap H).Ns b m := fun {b m} ⟨o, es, ep, e, d, r⟩ => ⟨o, es, ep, hidT_get e (free e fun its n z => by rw [d] at z; cases z), d, r⟩
  have kb : K.In (hidT s1.heap H) := fun b o e => hidT_get (KX b o e) (by
    cases q : H b with
    | none => rfl
    | some u =>
      obtain ⟨rfl, h2, _⟩ := only b u q
      rw [h2] at e; cases e)
  have e0 : Env0 prog w K mg (hidT s1.heap H) callerA [] s1 H :=
    ⟨rfl, ⟨kb, nsK hns, ⟨mb, nsK hb, hbb⟩, let ⟨mc, h1, h2⟩ := hlim; ⟨mc, nsK h1, h2⟩⟩, fun b o e => of_hidT e, Nat.le_of_eq (hidT_size _ _), trivial, fun b hb => absurd (show b ∈ ([] : List Addr) from hb) (by simp), hok, .of_eq hg⟩
  refine codeAny_mono ((F _ kb (nsK hns)).run callerA [] s1 H ⟨[.ref a], []⟩ [.ref a] [.ref a] (fun v _ => v = .bl true) (fun _ _ _ => False) rfl hr e0 (hbind s1 (.ref a)) (.cons rfl .nil) ⟨a, ns, rfl, hS, hl, fun _ => rfl⟩) fun r s' h => ?_
  cases r with
  | error e =>
    obtain ⟨_, _, _, _, _, _, _, _, _, _, _, _, z⟩ := h
    exact z.elim
  | ok fl =>
    cases fl with
    | next => exact False.elim h
    | brk => exact False.elim h
    | cont => exact False.elim h
    | ret u =>
      obtain ⟨v, H', os, bare, un, hok', r', q⟩ := h
      have q : v = .bl true := q
      subst q
      obtain rfl : u = Value.bool true := r'
      refine ⟨rfl, OldK.of_keep fun b o e => ?_, os, bare⟩
      cases q : H b with
      | none => exact un.keep b o e q (by intro z; exact absurd (show b ∈ ([] : List Addr) from z) (by simp)) (by simp)
      | some u =>
        obtain ⟨_, _, ob, xs, rfl⟩ := only b u q
        have w1 := (hok b _ q).1
        have w2 := (hok' b _ (un.frzs b ob _ q)).1
        rw [e] at w1; cases w1
        exact w2
theorem law_fn {P : Prg} {T : Tab} {sts : List Stmt} {prog : Program} {w : World} {K : PySem.W.Frag} {mg : Str → Option Value} {h : Heap} {n i : Nat} {fn : Fn} {fa : Addr} (KX : K.In h) (GN : h.Ns mainGlobals mg) (G : ∀ base, GF P T prog w K mg base) (X : Txt P T sts) (hA : AllF K P sts)
    (hi : P[i]? = some fn) (hp : fn.params = [("script" : Str)]) (hn : mg fn.name = some (.ref fa)) (PL : ∀ ns : List Int, ns.length ≤ 63 → Post (callN P (n + 1) i [.frz (ns.map D.int)]) [] (fun d _ => d = .bl true) noex) :
    ∃ fd : FuncData, (∀ (s : Shared) (u : Value), BindsTo s fd ⟨[u], []⟩ [("script", u)]) ∧ ∀ base : Heap, K.In base → base.Ns mainGlobals mg → FnG prog w K mg base (L2.CX prog w) (n + 1 + 3) fa fd ["script"] (spLawK K) := by
  have F := funs_of KX GN hA
  obtain ⟨st, h1, h2, h3, h4⟩ := X.ck i fn hi
  obtain ⟨f, fd, m1, m2⟩ := F i fn st hi h1
  rw [hn] at m1
  cases m1
  refine ⟨fd, fun s u => ?_, fun base _ _ => ?_⟩
  · obtain ⟨oc, od, kV, doc, pm, an, cdv, ct, osl, rfl, lk, hcd⟩ := m2.ex
    have := h3 kV doc pm an cdv ct [u] (by rw [hp]; rfl)
    rw [hp] at this
    exact .of_eq this
  · have q := fn_succ (G base) (ff_all (G base) X F n) hi h2 m2
    rw [hp] at q
    exact ⟨fun vs H Q E hh => q.len _ _ _ _ (law_sp PL hh), fun A outer s H args us vs Q E hgu hro he hb hv hs => q.run A outer s H args us vs Q E hgu hro he hb hv (law_sp PL hs)⟩
theorem walk83 {l : PySem.W.OpenLaw} {q : Program} {loose : List Str} {XP : (Str → Option Value) → Heap → Prop} {YP : World → Heap → Prop} {d : DefRec} {K : Params → PySem.W.Frag} {n : Nat} (hn : l.most = some 63) (hdf : d.params.defaults = []) (hr : Room n callerA)
    (hY : ∀ (w : World) (h : Heap), YP w h → (K w.params).In h)
    (F : ∀ (w : World) (mg : Str → Option Value) (fa : Addr) (h : Heap), (K w.params).In h → h.Ns mainGlobals mg → mg d.name = some (.ref fa) →
      ∃ fd : FuncData, (∀ (s : Shared) (u : Value), BindsTo s fd ⟨[u], []⟩ [("script", u)]) ∧ ∀ base : Heap, (K w.params).In base → base.Ns mainGlobals mg → FnG l.prog w (K w.params) mg base (L2.CX l.prog w) n fa fd ["script"] (spLawK (K w.params))) :
    PySem.W.WalkO q loose XP YP l.row.toRowW d [] (fun f vs => PySem.call f vs) := by
  refine _root_.Att.attach_call hn hdf fun w s₀ s1 mg mb fa o pm cd doc a vs ns G Y ho hd hcd hmg hobj hints hlen hg => ?_
  obtain ⟨fd, hb, hF⟩ := F w mg fa _ (hY w _ Y) G.T.g hmg
  exact enterG (hY w _ Y) G.T.g G.T.b G.T.builtins G.T.nolimit hg hobj hints hlen hr hF hb
end OC

namespace OC
open PySem PySem.Spec PyProof.Rows L2
/-! ### the __init__ of an own exception with one field -/
section
variable {X : Cx}
def rStrT (K : PySem.W.Frag) : List V → Hp → VK → Prop := fun xs H Q => ∃ (v : V) (p : PyData), xs = [v] ∧ Dp K H v p ∧ p.showable = true ∧ p.plain = true ∧ p.depth ≤ 30 ∧ p.shown.length + 1000 ≤ sizeLine ∧ (∀ x, p ≠ .str x) ∧ Q (.str p.shown) H
theorem cb_str (hg : X.A.guards = some []) (hu : X.A.units + 70 < cLine) : CallR X (.type "str") (rStrT X.K) := by
  intro pins s σ H xs us Q I r h
  obtain ⟨v, p, rfl, dp, h1, h2, h3, h4, h5, q⟩ := h
  obtain ⟨u, rfl, ru⟩ := vals1 r
  obtain ⟨bs, rd⟩ := Dp.reads I _ v u dp ru
  have fin : ∀ (h' : Heap) (t : Tok) (tk : Nat), (∀ b o, s.heap.get? b = some o → h'.get? b = some o) → EP X pins σ Q (.str p.shown t) { s with heap := h', toks := tk } := fun h' t tk hk =>
    ⟨.str p.shown, H, I.kept (t' := tk) hk, ⟨t, rfl⟩, q⟩
  have big : ∀ {a : Addr}, Reads s.heap (.ref a) p bs → wpAny (model X.prog X.w) X.A (call (.type "str") [.ref a]) (EP X pins σ Q) X.xe s := fun rd =>
    str_of_reads rd h1 (PyData.noDict_hsm (plain_nodict p h2)) hg (by omega) (fun _ _ z => z) (fun h' t tk hk => fin h' t tk hk) (by omega)
  cases rd with
  | none => exact PySem.P.str_of_none (by simpa only [PyData.shown] using fin s.heap _ _ fun _ _ z => z)
  | bool b => exact PySem.P.str_of_bool (by simpa only [PyData.shown] using fin s.heap _ _ fun _ _ z => z)
  | int i t => exact PySem.P.str_of_int (int_log h1) (by simpa only [PyData.shown] using fin s.heap _ _ fun _ _ z => z)
  | str y t => exact (h5 y rfl).elim
  | list a1 a2 a3 a4 => exact big (.list a1 a2 a3 a4)
  | tuple a1 a2 a3 a4 => exact big (.tuple a1 a2 a3 a4)
  | dict a1 a2 a3 a4 a5 => simp [PyData.plain] at h2
/-- an own base class whose __init__ is that of ValueError -/
structure CeOk (K : PySem.W.Frag) (mg : Str → Option Value) (b : Str) (CE : Addr) : Prop where
  gl : mg b = some (.ref CE)
  rd : PySem.W.readsIn K CE (.type "type") = true
  ga : PySem.W.specialIn K (.ref CE) "__getattribute__" = some (some (.builtin "type.__getattribute__"))
  at_ : PySem.W.findCls K (.ref CE) (.type "type") "__init__" = some (.val (.builtin "ValueError.__init__"))
theorem pe_ceinit {CE : Addr} {b : Str} {e : Expr} {es : List Expr} {ta : TA} {p1 p2 pos : Pos} (T : CeOk X.K X.mg b CE) (hg : Gl X b) (hdb : (b == ("__debug__" : Str)) = false) (ha : PA X (e :: es) ta)
    (he : starEach (e :: es) X.env = (false, eval e X.env) :: starEach es X.env) (hpl : (backTo pos (starEach es X.env)).any (·.1) = false)
    (hfew : methodCallForm ((e :: es).length + ([] : List Keyword).length) (backTo pos (starEach (e :: es) X.env)) (backToKw pos (keywordEach [] X.env)) = true) (hline : (p2.endLine == pos.line) = true) :
    PE X (.Call (.Attribute (.Name b p1) "__init__" p2) (e :: es) [] pos) (tVeI X.K ta) := by
  refine ⟨fun pins s σ H Q I h => ?_⟩
  have hbase : attributeBase (.Name b p1) "__init__" X.env (eval (.Name b p1) X.env) = eval (.Name b p1) X.env := rfl
  have hpos : methodCallPos true (.Name b p1) X.env p2 pos = pure pos := by unfold methodCallPos; simp [hline]
  rw [arm_eval_Call, hbase]
  refine wpAny_bind (ld_glob I hg T.gl ?_ hdb)
  refine wpAny_bind (wpAny_standAt ?_)
  unfold methodCall
  rw [hfew]
  refine wpAny_bind (wpAny_holding (PySem.W.method_cls I.kIn T.ga (PySem.W.cls_value I.kIn T.rd T.at_ rfl ?_)))
  refine wpAny_bind (wpAny_of_eq hpos ?_)
  show wpAny _ _ (callWith pos (Value.builtin "ValueError.__init__") [] (backTo pos (starEach (e :: es) X.env)) []) _ _ _
  refine PyProof.Rows.callWith_method1 (thn (ha.run pos pins _ σ H _ (I.tok _) h) fun us s1 ⟨vs, H1, I1, r1, a, C, ws, ev, hl, T2, ea, q⟩ => ?_) he hpl
  subst ev
  cases r1 with
  | @cons _ u0 _ ur ra rw' =>
    obtain rfl : u0 = Value.ref a := ra
    refine oinit_ok T2 I1 ea ?_ fun s' J => ⟨.non, H1, J, rfl, q⟩
    rw [← Paired.length rw', sizeLine_eq]
    omega
end
def initS : Stmt → Stmt
  | .ClassDef _ _ _ (s :: _) _ _ _ _ _ _ _ => s
  | s => s
def ckInit (fl b : Str) (st : Stmt) : Bool :=
  let sc := defScope st
  decide (sc.kind = .function) && !sc.isCoroutine && !sc.isGenerator && kindB sc "self" .local && kindB sc fl .local && sc.names.all (fun y => !(y.2 == .free)) && glB sc b && glB sc "str" && (fl != "self") && visB sc "self" && visB sc fl &&
  match defBody st with
  | [.Expr (.Call (.Attribute (.Name b1 _) im apos) [.Name x1 _, .BinOp (.Constant (.str lit) _ _) .Add (.Call (.Name x2 _) [.Name x3 _] [] _) _] [] cpos) _, .Assign [.Attribute (.Name x4 _) x5 _] (.Name x6 _) _] =>
    b1 == b && im == ("__init__" : Str) && x1 == ("self" : Str) && x2 == ("str" : Str) && x3 == fl && x4 == ("self" : Str) && x5 == fl && x6 == fl && decide (lit.length ≤ 900) && (apos.endLine == cpos.line)
  | _ => false
section
variable {prog : Program} {w : World} {K : PySem.W.Frag} {mg : Str → Option Value} {base : Heap}
theorem init_fn {fl b qual : Str} {st : Stmt} {fI C CE : Addr} {fd : FuncData} (ck : ckInit fl b st = true) (F : Fun K "__init__" qual st fI fd) (T : CeOk K mg b CE) (oc : OexC K C) (no : PySem.W.findIn K (.ref C) fl = some none) (mS : mg "str" = none) :
    FnG prog w K mg base (L2.CX prog w) 2 fI fd ["self", fl] (spInit K C fl) := by
  unfold ckInit at ck
  simp only [Bool.and_eq_true] at ck
  obtain ⟨⟨⟨⟨⟨⟨⟨⟨⟨⟨⟨c1, c2⟩, c3⟩, c4⟩, c5⟩, c6⟩, c7⟩, c8⟩, c9⟩, c10⟩, c11⟩, c12⟩ := ck
  have hne : fl ≠ "self" := by simpa using c9
  have hsc : FnScope ["self", fl] ["self", fl] (defScope st) := by
    refine ⟨of_decide_eq_true c1, by simpa using c2, by simpa using c3, ?_, rfl, fun x hx => ?_, fun y hy => ?_⟩
    · simp only [List.nodup_cons, List.mem_cons, List.not_mem_nil, or_false, not_false_eq_true, List.nodup_nil, and_true]
      exact fun e => hne e.symm
    · rcases List.mem_cons.mp hx with rfl | hx
      · exact .inl (beq_iff_eq.mp c4)
      · rw [List.mem_singleton.mp hx]; exact .inl (beq_iff_eq.mp c5)
    · have := List.all_eq_true.mp c6 y hy
      simpa using this
  refine fnG_body (k := 1) F hsc (fun vs H Q E h => by obtain ⟨a, v, p, rfl, _⟩ := h; rfl) fun cdv A outer s H vs Q E hg hr h => ?_
  obtain ⟨a, v, p, rfl, ea, dp, h1, h2, h3, h4, h5, q⟩ := h
  split at c12
  · rename_i b1 q1 im q2 x1 q3 lit q4 q5 x2 q6 x3 q7 q8 q9 q10 q11 x4 q12 x5 q13 x6 q14 q15 ebody
    simp only [Bool.and_eq_true] at c12
    obtain ⟨⟨⟨⟨⟨⟨⟨⟨⟨d1, d2⟩, d3⟩, d4⟩, d5⟩, d6⟩, d7⟩, d8⟩, d9⟩, d10⟩ := c12
    have z1 := beq_iff_eq.mp d1
    have z2 := beq_iff_eq.mp d2
    have z3 := beq_iff_eq.mp d3
    have z4 := beq_iff_eq.mp d4
    have z5 := beq_iff_eq.mp d5
    have z6 := beq_iff_eq.mp d6
    have z7 := beq_iff_eq.mp d7
    have z8 := beq_iff_eq.mp d8
    have hlit := of_decide_eq_true d9
    subst z1 z2 z3 z4 z6 z7 z5
    subst z8
    rw [ebody]
    have gl : ∀ {x : Str}, glB (defScope st) x = true → Gl (cxOf (L2.CX prog w) prog w K mg base ["self", x6] qual (defScope st) fI cdv A outer s H E) x ∧ (x == ("__debug__" : Str)) = false ∧ x ≠ "__name__" := fun {x} g => by
      unfold glB kindB at g
      simp only [Bool.and_eq_true, Bool.not_eq_true', beq_iff_eq] at g
      refine ⟨g.1.1, g.1.2, fun e => ?_⟩
      rw [e] at g; simp at g
    have vis : ∀ {x : Str}, visB (defScope st) x = true → Vis (cxOf (L2.CX prog w) prog w K mg base ["self", x6] qual (defScope st) fI cdv A outer s H E).env.scope x ∧ (x == ("__debug__" : Str)) = false ∧ (x == ("__classdict__" : Str)) = false := fun {x} g => by
      unfold visB kindB at g
      simp only [Bool.and_eq_true, Bool.or_eq_true, Bool.not_eq_true', beq_iff_eq] at g
      refine ⟨?_, g.1.2, g.2⟩
      rcases g.1.1 with (q | q) | q
      · exact .inl q
      · exact .inr (.inl q)
      · exact .inr (.inr q)
    obtain ⟨g1, g2, g3⟩ := gl c7
    obtain ⟨k1, k2, k3⟩ := gl c8
    obtain ⟨v1, v2, v3⟩ := vis c10
    obtain ⟨w1, w2, w3⟩ := vis c11
    have hu : (A.deeper (envOfC qual (defScope st) s.heap.objs.size fI cdv)).units + 70 < cLine := by have := hr.un; omega
    have p0 := fun (ps : Pos) => pe_var (X := cxOf (L2.CX prog w) prog w K mg base ["self", x6] qual (defScope st) fI cdv A outer s H E) (i := 0) (pos := ps) rfl v1 v2 v3
    have pf := fun (ps : Pos) => pe_var (X := cxOf (L2.CX prog w) prog w K mg base ["self", x6] qual (defScope st) fI cdv A outer s H E) (i := 1) (pos := ps) rfl w1 w2 w3
    refine ⟨_, pss_cons (ps_expr (pe_ceinit T g1 g2 (pa_cons (p0 _) (pa_cons (pe_op op_add_str pe_str (pe_callTy (cb_str (by exact hg) hu) k1 mS boot_str (pa_cons (pf _) pa_nil rfl) k3 k2 rfl rfl)) pa_nil rfl) rfl) rfl rfl rfl d10) rfl) (pss_one (ps_ost (p0 _) (pf _))), ?_⟩
    refine ⟨.ref a, rfl, ⟨v, rfl, v, p, rfl, dp, h1, h2, h3, h4, h5, ?_⟩⟩
    refine ⟨lit, p.shown, rfl, rfl, by omega, ?_⟩
    refine ⟨a, C, [.str (lit ++ p.shown)], rfl, (by show 1 ≤ 1000; omega), oc, ea, ?_⟩
    refine ⟨v, rfl, .ref a, rfl, a, C, rfl, oc, no, .inl ⟨ea, fun dx hdx hne2 => q dx hdx hne2⟩⟩
  · cases c12
/-- one class of the text with a field: the facts -/
structure ExfFact (K : PySem.W.Frag) (x fl bs : Str) (st : Stmt) (C CE fI : Addr) : Prop where
  a : PySem.W.nsIn K mainGlobals x = some (some (.ref C))
  o : OexC K C
  f : XfC K C
  n : PySem.W.findIn K (.ref C) fl = some none
  i : PySem.W.findIn K (.ref C) "__init__" = some (some (.ref fI))
  t : PySem.W.typeIn K (.ref fI) = some (.type "function")
  w : ∃ (qual : Str) (fd : FuncData), Fun K "__init__" qual st fI fd ∧ Binds K fd ["self", fl] []
  b : PySem.W.nsIn K mainGlobals bs = some (some (.ref CE))
  r : PySem.W.readsIn K CE (.type "type") = true
  g : PySem.W.specialIn K (.ref CE) "__getattribute__" = some (some (.builtin "type.__getattribute__"))
  e : PySem.W.findCls K (.ref CE) (.type "type") "__init__" = some (.val (.builtin "ValueError.__init__"))
  c : ckInit fl bs st = true
theorem exf_ok {h : Heap} (X : K.In h) (G : h.Ns mainGlobals mg) {x fl b : Str} {st : Stmt} {C CE fI : Addr} (F : ExfFact K x fl b st C CE fI) (mS : mg "str" = none) : ExfOk prog w K mg base x fl C := by
  obtain ⟨qual, fd, q1, q2⟩ := F.w
  exact ⟨PySem.W.mg_of X G F.a, F.o, F.f, F.n, fI, fd, F.i, F.t, init_fn F.c q1 ⟨PySem.W.mg_of X G F.b, F.r, F.g, F.e⟩ F.o F.n mS, q2⟩
end
end OC
namespace OC
open PySem PySem.Spec PyProof.Rows L2
/-- any class of the text: what is asked of it where it is caught -/
structure ExnFact (K : PySem.W.Frag) (x : Str) (C : Addr) : Prop where
  a : PySem.W.nsIn K mainGlobals x = some (some (.ref C))
  k : PySem.W.keepIn K (.ref C) = true
  b : PySem.W.subIn K (.ref C) (.type "BaseException") = some true
  t : PySem.W.typeIn K (.ref C) = some (.type "type")
  i : PySem.W.isClsIn K C = true
theorem fun_ini {K : PySem.W.Frag} {qual : Str} {st : Stmt} {f : Addr} {oc : Value} {od an : Option Addr} {osl : Array (Option Value)} {kV doc pm cdv ct : Value} (l : K.lookup f = some ⟨oc, od, .func (PySem.W.fnOf "__init__" qual (defArgs st) (defBody st) (defScope st) .none kV doc pm an cdv ct), osl⟩)
    (c : PySem.W.codeIn K cdv qual = true) (k : PySem.W.keepIn K (.ref f) = true) : Fun K "__init__" qual st f (PySem.W.fnOf "__init__" qual (defArgs st) (defBody st) (defScope st) .none kV doc pm an cdv ct) := fun_mk l c k
end OC
namespace OC
open PySem PySem.Spec PyProof.Rows L2
theorem oexc_mk {K : PySem.W.Frag} {C CE N : Addr} {nm q : Str} {bs : List Value} {sn : List Str} {sub : List Value} {ab : Bool} {col : Option Bool} {dd : Option Addr} {k0 k1 k2 k3 k5 : Option Value}
    (xL : K.lookup C = some (excClassObj nm q C N bs [.ref CE, .type "ValueError", .type "Exception", .type "BaseException", .type "object"] true sn sub ab col dd k0 k1 k2 k3 k5 "ValueError.__new__"))
    (sa : PySem.W.findIn K (.ref C) "__setattr__" = some (some (.builtin "object.__setattr__"))) (eC : PySem.W.subIn K (.ref C) (.type "BaseException") = some true) (tC : PySem.W.typeIn K (.ref C) = some (.type "type")) (kC : PySem.W.keepIn K (.ref C) = true) : OexC K C :=
  ⟨⟨nm, q, N, bs, _, sn, sub, ab, col, dd, k0, k1, k2, k3, k5, xL, by rfl⟩, sa, eC, tC, kC⟩
end OC

namespace OC
open PySem PySem.Spec PyProof.Rows L2
abbrev xcs : List Str := ["InvalidDefining"]
def f_lowest : Fn := ⟨"lowest", ["top", "bottom"], ["top", "bottom", "shared"],
    (.cons (.set (.nm 2) (.ife (.cmp .gt (.v 1) (.k (.int 0))) (.bi .gcd (.cons (.v 0) (.cons (.v 1) .nil))) (.neg (.bi .gcd (.cons (.v 0) (.cons (.v 1) .nil))))))
    (.cons (.ret (.tup (.cons (.op .fdiv (.v 0) (.v 2)) (.cons (.op .fdiv (.v 1) (.v 2)) .nil))))
    .nil))⟩
def f_plus_in : Fn := ⟨"plus_in", ["one", "other"], ["one", "other"],
    (.cons (.ret (.call 32 (.cons (.op .add (.op .mul (.idx (.v 0) (.k (.int 0))) (.idx (.v 1) (.k (.int 1)))) (.op .mul (.idx (.v 1) (.k (.int 0))) (.idx (.v 0) (.k (.int 1))))) (.cons (.op .mul (.idx (.v 0) (.k (.int 1))) (.idx (.v 1) (.k (.int 1)))) .nil)) [] .nil))
    .nil)⟩
def f_minus_in : Fn := ⟨"minus_in", ["one", "other"], ["one", "other"],
    (.cons (.ret (.call 32 (.cons (.op .sub (.op .mul (.idx (.v 0) (.k (.int 0))) (.idx (.v 1) (.k (.int 1)))) (.op .mul (.idx (.v 1) (.k (.int 0))) (.idx (.v 0) (.k (.int 1))))) (.cons (.op .mul (.idx (.v 0) (.k (.int 1))) (.idx (.v 1) (.k (.int 1)))) .nil)) [] .nil))
    .nil)⟩
def f_times_in : Fn := ⟨"times_in", ["one", "other"], ["one", "other"],
    (.cons (.ret (.call 32 (.cons (.op .mul (.idx (.v 0) (.k (.int 0))) (.idx (.v 1) (.k (.int 0)))) (.cons (.op .mul (.idx (.v 0) (.k (.int 1))) (.idx (.v 1) (.k (.int 1)))) .nil)) [] .nil))
    .nil)⟩
def f_over_in : Fn := ⟨"over_in", ["one", "other"], ["one", "other"],
    (.cons (.ret (.call 32 (.cons (.op .mul (.idx (.v 0) (.k (.int 0))) (.idx (.v 1) (.k (.int 1)))) (.cons (.op .mul (.idx (.v 0) (.k (.int 1))) (.idx (.v 1) (.k (.int 0)))) .nil)) [] .nil))
    .nil)⟩
def f_in_sequence : Fn := ⟨"in_sequence", ["numbers"], ["numbers", "number", "some", "multiple"],
    (.cons .any
    (.cons (.for (.nm 1) (.sq (.v 2))
    (.cons .any
    .nil))
    (.cons .any
    .nil)))⟩
def f_is_term : Fn := ⟨"is_term", ["names", "thing"], ["names", "thing"],
    (.cons (.ret (.bool false (.cons (.call 2 (.cons (.v 0) (.cons (.v 1) .nil)) [] .nil) (.cons (.call 5 (.cons (.v 1) .nil) [] .nil) .nil))))
    .nil)⟩
def f_term_worth : Fn := ⟨"term_worth", ["term", "place"], ["term", "place"],
    (.cons (.ret (.ife (.isin (.v 0) [.tup]) (.v 0) (.idx (.v 1) (.v 0))))
    .nil)⟩
def f_together : Fn := ⟨"together", ["lots"], ["lots", "lot", "number"],
    (.cons .any
    .nil)⟩
def f_middle_in : Fn := ⟨"middle_in", ["number", "other"], ["number", "other"],
    (.cons (.ret (.call 36 (.cons (.call 33 (.cons (.v 0) (.cons (.v 1) .nil)) [] .nil) (.cons (.tup (.cons (.k (.int 2)) (.cons (.k (.int 1)) .nil))) .nil)) [] .nil))
    .nil)⟩
def f_pairs_below : Fn := ⟨"pairs_below", ["slot", "ranks"], ["slot", "ranks", "rank"],
    (.cons (.ret (.comp [("rank", 2)] (.tup (.cons (.v 0) (.cons (.v 2) .nil))) (.nm 2) (.rng1 (.v 1)) .none))
    .nil)⟩
def f_heights : Fn := ⟨"heights", ["cell"], ["cell", "found", "slot", "rank"],
    (.cons .any
    (.cons (.for (.tup [2, 3]) (.sq (.v 0))
    (.cons (.ifs (.cmp .eq (.op .mod (.v 2) (.k (.int 2))) (.k (.int 0)))
    (.cons .any
    .nil)
    .nil)
    .nil))
    (.cons (.ret (.v 1))
    .nil)))⟩
def f_raised : Fn := ⟨"raised", ["cell", "slot", "rank"], ["cell", "slot", "rank", "one", "at"],
    (.cons (.ret (.bi .tuple (.cons (.comp [("one", 3), ("at", 4)] (.ife (.bool true (.cons (.cmp .eq (.v 3) (.v 1)) (.cons (.cmp .ge (.v 4) (.v 2)) .nil))) (.tup (.cons (.v 3) (.cons (.op .add (.v 4) (.k (.int 1))) .nil))) (.tup (.cons (.v 3) (.cons (.v 4) .nil)))) (.tup [3, 4]) (.sq (.v 0)) .none) .nil)))
    .nil)⟩
def f_extended : Fn := ⟨"extended", ["count", "cell"], ["count", "cell", "slot", "found", "many", "ranks", "pair", "rank"],
    (.cons (.set (.tup [3, 4]) (.tup (.cons (.lst .nil) (.cons (.call 43 (.cons (.v 1) .nil) [] .nil) .nil))))
    (.cons (.for (.nm 2) (.rng1 (.op .add (.op .mul (.k (.int 2)) (.v 0)) (.k (.int 1))))
    (.cons (.ifs (.cmp .eq (.op .mod (.v 2) (.k (.int 2))) (.k (.int 1)))
    (.cons (.ex (.meth .append (.v 3) (.cons (.op .add (.v 1) (.tup (.cons (.tup (.cons (.v 2) (.cons (.k (.int 0)) .nil))) .nil))) .nil)))
    .nil)
    (.cons .any
    (.cons (.ex (.meth .extend (.v 3) (.cons (.comp [("pair", 6)] (.op .add (.v 1) (.tup (.cons (.v 6) .nil))) (.nm 6) (.sq (.call 42 (.cons (.v 2) (.cons (.v 5) .nil)) [] .nil)) .none) .nil)))
    (.cons (.ex (.meth .extend (.v 3) (.cons (.comp [("rank", 7)] (.op .add (.call 44 (.cons (.v 1) (.cons (.v 2) (.cons (.v 7) .nil))) [] .nil) (.tup (.cons (.tup (.cons (.v 2) (.cons (.v 7) .nil))) .nil))) (.nm 7) (.rng1 (.op .add (.v 5) (.k (.int 1)))) .none) .nil)))
    .nil))))
    .nil))
    (.cons (.ret (.v 3))
    .nil)))⟩
def f_cells_in : Fn := ⟨"cells_in", ["names", "constants"], ["names", "constants", "found", "turn", "cell", "longer"],
    (.cons (.set (.nm 2) (.lst (.cons (.tup .nil) .nil)))
    (.cons (.for (.nm 3) (.rng1 (.v 0))
    (.cons .any
    .nil))
    (.cons .any
    .nil)))⟩
def f_slot_of : Fn := ⟨"slot_of", ["constants", "number"], ["constants", "number", "index", "constant"],
    (.cons (.for (.tup [2, 3]) (.enm (.v 0))
    (.cons (.ifs (.cmp .eq (.v 1) (.v 3))
    (.cons (.ret (.op .add (.op .mul (.k (.int 2)) (.v 2)) (.k (.int 1))))
    .nil)
    .nil)
    (.cons (.ifs (.call 6 (.cons (.v 1) (.cons (.v 3) .nil)) [] .nil)
    (.cons (.ret (.op .mul (.k (.int 2)) (.v 2)))
    .nil)
    .nil)
    .nil)))
    (.cons (.ret (.op .mul (.k (.int 2)) (.bi .len (.cons (.v 0) .nil))))
    .nil))⟩
def f_cell_in : Fn := ⟨"cell_in", ["constants", "place"], ["constants", "place", "slots", "number", "ranks", "last", "slot"],
    (.cons .any
    (.cons .any
    (.cons (.for (.nm 3) (.sq (.call 37 (.cons (.v 2) .nil) [] .nil))
    (.cons (.set (.nm 6) (.idx (.v 2) (.v 3)))
    (.cons .any
    (.cons (.setI (.v 5) (.v 6) (.op .add (.idx (.v 4) (.v 3)) (.k (.int 1))))
    .nil))))
    (.cons (.ret (.bi .tuple (.cons (.comp [("number", 3)] (.tup (.cons (.idx (.v 2) (.v 3)) (.cons (.idx (.v 4) (.v 3)) .nil))) (.nm 3) (.sq (.v 1)) .none) .nil)))
    .nil))))⟩
def f_number_at : Fn := ⟨"number_at", ["constants", "slot", "rank", "many"], ["constants", "slot", "rank", "many", "low", "high"],
    (.cons (.ifs (.cmp .eq (.op .mod (.v 1) (.k (.int 2))) (.k (.int 1)))
    (.cons (.ret (.idx (.v 0) (.op .fdiv (.v 1) (.k (.int 2)))))
    .nil)
    .nil)
    (.cons (.ifs (.cmp .eq (.v 0) (.tup .nil))
    (.cons (.ret (.tup (.cons (.v 2) (.cons (.k (.int 1)) .nil))))
    .nil)
    .nil)
    (.cons (.ifs (.cmp .eq (.v 1) (.k (.int 0)))
    (.cons (.ret (.call 33 (.cons (.idx (.v 0) (.k (.int 0))) (.cons (.tup (.cons (.op .sub (.v 2) (.v 3)) (.cons (.k (.int 1)) .nil))) .nil)) [] .nil))
    .nil)
    .nil)
    (.cons (.ifs (.cmp .eq (.v 1) (.op .mul (.k (.int 2)) (.bi .len (.cons (.v 0) .nil))))
    (.cons (.ret (.call 33 (.cons (.idx (.v 0) (.neg (.k (.int 1)))) (.cons (.tup (.cons (.op .add (.v 2) (.k (.int 1))) (.cons (.k (.int 1)) .nil))) .nil)) [] .nil))
    .nil)
    .nil)
    (.cons (.set (.tup [4, 5]) (.tup (.cons (.idx (.v 0) (.op .sub (.op .fdiv (.v 1) (.k (.int 2))) (.k (.int 1)))) (.cons (.idx (.v 0) (.op .fdiv (.v 1) (.k (.int 2)))) .nil))))
    (.cons (.ret (.call 33 (.cons (.v 4) (.cons (.call 35 (.cons (.call 34 (.cons (.v 5) (.cons (.v 4) .nil)) [] .nil) (.cons (.call 32 (.cons (.op .add (.v 2) (.k (.int 1))) (.cons (.op .add (.v 3) (.k (.int 1))) .nil)) [] .nil) .nil)) [] .nil) .nil)) [] .nil))
    .nil))))))⟩
def f_sample_in : Fn := ⟨"sample_in", ["constants", "cell"], ["constants", "cell", "many", "slot", "rank"],
    (.cons (.set (.nm 2) (.call 43 (.cons (.v 1) .nil) [] .nil))
    (.cons .any
    .nil))⟩
def f_ways_in : Fn := ⟨"ways_in", ["ranks", "low", "high"], ["ranks", "low", "high", "found", "rank", "longer", "way", "first", "one"],
    (.cons (.set (.nm 3) (.lst (.cons (.tup .nil) .nil)))
    (.cons (.for (.nm 4) (.rng1 (.v 0))
    (.cons (.set (.nm 5) (.lst .nil))
    (.cons (.for (.nm 6) (.sq (.v 3))
    (.cons (.set (.nm 7) (.ife (.cmp .eq (.v 6) (.tup .nil)) (.v 1) (.op .add (.idx (.v 6) (.neg (.k (.int 1)))) (.op .mod (.idx (.v 6) (.neg (.k (.int 1)))) (.k (.int 2))))))
    (.cons (.ex (.meth .extend (.v 5) (.cons (.comp [("one", 8)] (.op .add (.v 6) (.tup (.cons (.v 8) .nil))) (.nm 8) (.rng2 (.v 7) (.op .add (.v 2) (.k (.int 1)))) .none) .nil)))
    .nil)))
    (.cons (.set (.nm 3) (.v 5))
    .nil))))
    (.cons (.ret (.v 3))
    .nil)))⟩
def f_renamed_pairs : Fn := ⟨"renamed_pairs", ["ways"], ["ways", "found", "slot", "way", "rank", "sub", "one"],
    (.cons .any
    (.cons .any
    (.cons (.ret (.v 1))
    .nil)))⟩
def f_finer_in : Fn := ⟨"finer_in", ["constants", "cell", "more"], ["constants", "cell", "more", "whole", "places", "bounds", "found", "ways", "fixed", "chosen", "index", "one", "slot", "ranks", "low", "high", "pairs", "way", "pair"],
    (.cons (.set (.nm 3) (.call 40 (.cons (.lst (.cons (.v 0) (.cons (.v 2) .nil))) .nil) [] .nil))
    (.cons .any
    (.cons (.set (.nm 5) (.comp [("one", 11)] (.op .add (.op .mul (.k (.int 2)) (.idx (.v 4) (.v 11))) (.k (.int 1))) (.nm 11) (.sq (.v 0)) .none))
    (.cons .any
    (.cons (.for (.tup [10, 11]) (.enm (.v 5))
    (.cons (.setI (.v 8) (.op .add (.op .mul (.k (.int 2)) (.v 10)) (.k (.int 1))) (.v 11))
    .nil))
    (.cons .any
    (.cons (.set (.nm 6) (.lst .nil))
    (.cons (.for (.nm 7) (.sq (.v 9))
    (.cons (.set (.nm 16) (.call 52 (.cons (.v 7) .nil) [] .nil))
    (.cons (.ex (.meth .append (.v 6) (.cons (.bi .tuple (.cons (.comp [("pair", 18)] (.ife (.cmp .eq (.op .mod (.idx (.v 18) (.k (.int 0))) (.k (.int 2))) (.k (.int 1))) (.tup (.cons (.idx (.v 8) (.idx (.v 18) (.k (.int 0)))) (.cons (.k (.int 0)) .nil))) (.idx (.v 16) (.v 18))) (.nm 18) (.sq (.v 1)) .none) .nil)) .nil)))
    .nil)))
    (.cons .any
    .nil)))))))))⟩
def f_coarser_in : Fn := ⟨"coarser_in", ["constants", "cell", "fewer"], ["constants", "cell", "fewer", "slots", "slot", "pair", "kept", "is_kept", "ranks", "last", "one"],
    (.cons .any
    (.cons (.for (.nm 4) (.rng1 (.op .add (.op .mul (.k (.int 2)) (.bi .len (.cons (.v 0) .nil))) (.k (.int 1))))
    (.cons (.set (.nm 6) (.bi .len (.cons (.comp [("one", 10)] (.v 10) (.nm 10) (.sq (.slice (.v 0) .none (.some (.op .fdiv (.v 4) (.k (.int 2)))))) (.some (.cmp .isin (.v 10) (.v 2)))) .nil)))
    (.cons (.set (.nm 7) (.bool true (.cons (.cmp .eq (.op .mod (.v 4) (.k (.int 2))) (.k (.int 1))) (.cons (.cmp .isin (.idx (.v 0) (.op .fdiv (.v 4) (.k (.int 2)))) (.v 2)) .nil))))
    (.cons (.setI (.v 3) (.v 4) (.op .add (.op .mul (.k (.int 2)) (.v 6)) (.bi .int (.cons (.v 7) .nil))))
    .nil))))
    (.cons .any
    (.cons .any
    (.cons (.ret (.bi .tuple (.cons (.comp [("pair", 5)] (.idx (.v 8) (.v 5)) (.nm 5) (.sq (.v 1)) .none) .nil)))
    .nil)))))⟩
def f_candidates : Fn := ⟨"candidates", ["constants", "place"], ["constants", "place", "points", "found", "one", "later"],
    (.cons (.set (.nm 2) (.call 40 (.cons (.lst (.cons (.v 0) (.cons (.v 1) .nil))) .nil) [] .nil))
    (.cons (.ifs (.cmp .eq (.v 2) (.tup .nil))
    (.cons (.ret (.lst (.cons (.tup (.cons (.k (.int 0)) (.cons (.k (.int 1)) .nil))) .nil)))
    .nil)
    .nil)
    (.cons (.set (.nm 3) (.lst (.cons (.call 34 (.cons (.idx (.v 2) (.k (.int 0))) (.cons (.tup (.cons (.k (.int 1)) (.cons (.k (.int 1)) .nil))) .nil)) [] .nil) .nil)))
    (.cons (.for (.tup [4, 5]) (.zip (.v 2) (.slice (.v 2) (.some (.k (.int 1))) .none))
    (.cons (.ex (.meth .extend (.v 3) (.cons (.lst (.cons (.v 4) (.cons (.call 41 (.cons (.v 4) (.cons (.v 5) .nil)) [] .nil) .nil))) .nil)))
    .nil))
    (.cons (.ret (.op .add (.v 3) (.lst (.cons (.idx (.v 2) (.neg (.k (.int 1)))) (.cons (.call 33 (.cons (.idx (.v 2) (.neg (.k (.int 1)))) (.cons (.tup (.cons (.k (.int 1)) (.cons (.k (.int 1)) .nil))) .nil)) [] .nil) .nil)))))
    .nil)))))⟩
def f_finer_table_in : Fn := ⟨"finer_table_in", ["table", "constants"], ["table", "constants", "whole", "cells", "cell", "finer"],
    (.cons (.set (.nm 2) (.call 40 (.cons (.lst (.cons (.idx (.v 0) (.k (.int 1))) (.cons (.v 1) .nil))) .nil) [] .nil))
    (.cons (.ifs (.cmp .eq (.v 2) (.idx (.v 0) (.k (.int 1))))
    (.cons (.ret (.v 0))
    .nil)
    .nil)
    (.cons .any
    (.cons .any
    .nil))))⟩
def f_left_out : Fn := ⟨"left_out", ["table", "number"], ["table", "number", "fewer", "cell", "slot", "many", "coarse", "one", "found"],
    (.cons (.set (.nm 2) (.bi .tuple (.cons (.comp [("one", 7)] (.v 7) (.nm 7) (.sq (.idx (.v 0) (.k (.int 1)))) (.some (.cmp .ne (.v 7) (.v 1)))) .nil)))
    (.cons .any
    (.cons (.for (.nm 3) (.sq (.idx (.v 0) (.k (.int 2))))
    (.cons (.set (.nm 6) (.call 54 (.cons (.idx (.v 0) (.k (.int 1))) (.cons (.v 3) (.cons (.v 2) .nil))) [] .nil))
    (.cons .any
    .nil)))
    (.cons .any
    (.cons .any
    .nil)))))⟩
def f_least_in : Fn := ⟨"least_in", ["table"], ["table", "number", "fewer"],
    (.cons (.for (.nm 1) (.sq (.idx (.v 0) (.k (.int 1))))
    (.cons (.set (.nm 2) (.call 57 (.cons (.v 0) (.cons (.v 1) .nil)) [] .nil))
    (.cons (.set (.nm 0) (.ife (.cmp .is (.v 2) (.k .non)) (.v 0) (.v 2)))
    .nil)))
    (.cons (.ret (.v 0))
    .nil))⟩
def f_is_formula_in : Fn := ⟨"is_formula_in", ["names", "thing"], ["names", "thing", "word", "one"],
    (.cons (.ifs (.bool false (.cons (.not (.isin (.v 1) [.tup])) (.cons (.cmp .eq (.v 1) (.tup .nil)) .nil)))
    (.cons (.ret (.k (.bl false)))
    .nil)
    .nil)
    (.cons (.set (.nm 2) (.idx (.v 1) (.k (.int 0))))
    (.cons (.ifs (.bool false (.cons (.cmp .eq (.v 2) (.k (.str ("less" : Str)))) (.cons (.cmp .eq (.v 2) (.k (.str ("same" : Str)))) .nil)))
    (.cons (.ret (.bool true (.cons (.cmp .eq (.bi .len (.cons (.v 1) .nil)) (.k (.int 3))) (.cons (.call 38 (.cons (.v 0) (.cons (.idx (.v 1) (.k (.int 1))) .nil)) [] .nil) (.cons (.call 38 (.cons (.v 0) (.cons (.idx (.v 1) (.k (.int 2))) .nil)) [] .nil) .nil)))))
    .nil)
    .nil)
    (.cons (.ifs (.bool false (.cons (.cmp .eq (.v 2) (.k (.str ("both" : Str)))) (.cons (.cmp .eq (.v 2) (.k (.str ("either" : Str)))) .nil)))
    (.cons (.ifs (.bool false (.cons (.cmp .ne (.bi .len (.cons (.v 1) .nil)) (.k (.int 2))) (.cons (.not (.call 3 (.cons (.k .non) (.cons (.idx (.v 1) (.k (.int 1))) .nil)) [] .nil)) (.cons (.cmp .eq (.idx (.v 1) (.k (.int 1))) (.tup .nil)) .nil))))
    (.cons (.ret (.k (.bl false)))
    .nil)
    .nil)
    (.cons (.ret (.bi .all (.cons (.comp [("one", 3)] (.call 59 (.cons (.v 0) (.cons (.v 3) .nil)) [] .nil) (.nm 3) (.sq (.idx (.v 1) (.k (.int 1)))) .none) .nil)))
    .nil))
    .nil)
    (.cons (.ifs (.cmp .eq (.v 2) (.k (.str ("not" : Str))))
    (.cons (.ret (.bool true (.cons (.cmp .eq (.bi .len (.cons (.v 1) .nil)) (.k (.int 2))) (.cons (.call 59 (.cons (.v 0) (.cons (.idx (.v 1) (.k (.int 1))) .nil)) [] .nil) .nil))))
    .nil)
    .nil)
    (.cons (.ifs (.bool false (.cons (.cmp .eq (.v 2) (.k (.str ("some" : Str)))) (.cons (.cmp .eq (.v 2) (.k (.str ("all" : Str)))) .nil)))
    (.cons (.ret (.bool true (.cons (.cmp .eq (.bi .len (.cons (.v 1) .nil)) (.k (.int 2))) (.cons (.call 59 (.cons (.op .add (.v 0) (.k (.int 1))) (.cons (.idx (.v 1) (.k (.int 1))) .nil)) [] .nil) .nil))))
    .nil)
    .nil)
    (.cons (.ret (.cmp .eq (.v 1) (.gl "YES" (.tup [(.str ("yes" : Str))]))))
    .nil)))))))⟩
def f_parts_of : Fn := ⟨"parts_of", ["formula"], ["formula"],
    (.cons (.ifs (.bool false (.cons (.cmp .eq (.idx (.v 0) (.k (.int 0))) (.k (.str ("both" : Str)))) (.cons (.cmp .eq (.idx (.v 0) (.k (.int 0))) (.k (.str ("either" : Str)))) .nil)))
    (.cons (.ret (.idx (.v 0) (.k (.int 1))))
    .nil)
    .nil)
    (.cons (.ret (.ife (.cmp .isin (.idx (.v 0) (.k (.int 0))) (.tup (.cons (.k (.str ("not" : Str))) (.cons (.k (.str ("some" : Str))) (.cons (.k (.str ("all" : Str))) .nil))))) (.slice (.v 0) (.some (.k (.int 1))) .none) (.tup .nil)))
    .nil))⟩
def f_numbers_in : Fn := ⟨"numbers_in", ["formula"], ["formula", "lots", "one"],
    (.cons (.set (.nm 1) (.comp [("one", 2)] (.call 61 (.cons (.v 2) .nil) [] .nil) (.nm 2) (.sq (.call 60 (.cons (.v 0) .nil) [] .nil)) .none))
    (.cons (.ifs (.bool false (.cons (.cmp .eq (.idx (.v 0) (.k (.int 0))) (.k (.str ("less" : Str)))) (.cons (.cmp .eq (.idx (.v 0) (.k (.int 0))) (.k (.str ("same" : Str)))) .nil)))
    (.cons (.ex (.meth .append (.v 1) (.cons (.comp [("one", 2)] (.v 2) (.nm 2) (.sq (.slice (.v 0) (.some (.k (.int 1))) .none)) (.some (.isin (.v 2) [.tup]))) .nil)))
    .nil)
    .nil)
    (.cons (.ret (.call 40 (.cons (.v 1) .nil) [] .nil))
    .nil)))⟩
def f_true_by : Fn := ⟨"true_by", ["constants", "formula", "place"], ["constants", "formula", "place", "word", "one", "two"],
    (.cons (.set (.nm 3) (.idx (.v 1) (.k (.int 0))))
    (.cons (.ifs (.bool false (.cons (.cmp .eq (.v 3) (.k (.str ("less" : Str)))) (.cons (.cmp .eq (.v 3) (.k (.str ("same" : Str)))) .nil)))
    (.cons (.set (.tup [4, 5]) (.tup (.cons (.call 39 (.cons (.idx (.v 1) (.k (.int 1))) (.cons (.v 2) .nil)) [] .nil) (.cons (.call 39 (.cons (.idx (.v 1) (.k (.int 2))) (.cons (.v 2) .nil)) [] .nil) .nil))))
    (.cons (.ret (.ife (.cmp .eq (.v 3) (.k (.str ("less" : Str)))) (.call 6 (.cons (.v 4) (.cons (.v 5) .nil)) [] .nil) (.cmp .eq (.v 4) (.v 5))))
    .nil))
    .nil)
    (.cons (.ifs (.cmp .eq (.v 3) (.k (.str ("not" : Str))))
    (.cons (.ret (.not (.call 62 (.cons (.v 0) (.cons (.idx (.v 1) (.k (.int 1))) (.cons (.v 2) .nil))) [] .nil)))
    .nil)
    .nil)
    (.cons (.ifs (.cmp .eq (.v 3) (.k (.str ("both" : Str))))
    (.cons (.ret (.bi .all (.cons (.comp [("one", 4)] (.call 62 (.cons (.v 0) (.cons (.v 4) (.cons (.v 2) .nil))) [] .nil) (.nm 4) (.sq (.idx (.v 1) (.k (.int 1)))) .none) .nil)))
    .nil)
    .nil)
    (.cons (.ifs (.cmp .eq (.v 3) (.k (.str ("either" : Str))))
    (.cons (.ret (.bi .any (.cons (.comp [("one", 4)] (.call 62 (.cons (.v 0) (.cons (.v 4) (.cons (.v 2) .nil))) [] .nil) (.nm 4) (.sq (.idx (.v 1) (.k (.int 1)))) .none) .nil)))
    .nil)
    .nil)
    (.cons (.ifs (.cmp .eq (.v 3) (.k (.str ("some" : Str))))
    (.cons (.ret (.bi .any (.cons (.comp [("one", 4)] (.call 62 (.cons (.v 0) (.cons (.idx (.v 1) (.k (.int 1))) (.cons (.op .add (.v 2) (.tup (.cons (.v 4) .nil))) .nil))) [] .nil) (.nm 4) (.sq (.call 55 (.cons (.v 0) (.cons (.v 2) .nil)) [] .nil)) .none) .nil)))
    .nil)
    .nil)
    (.cons (.ifs (.cmp .eq (.v 3) (.k (.str ("all" : Str))))
    (.cons (.ret (.bi .all (.cons (.comp [("one", 4)] (.call 62 (.cons (.v 0) (.cons (.idx (.v 1) (.k (.int 1))) (.cons (.op .add (.v 2) (.tup (.cons (.v 4) .nil))) .nil))) [] .nil) (.nm 4) (.sq (.call 55 (.cons (.v 0) (.cons (.v 2) .nil)) [] .nil)) .none) .nil)))
    .nil)
    .nil)
    (.cons (.ret (.k (.bl true)))
    .nil))))))))⟩
def f_is_call : Fn := ⟨"is_call", ["heads", "names", "thing"], ["heads", "names", "thing", "one"],
    (.cons (.ifs (.bool false (.cons (.cmp .ne (.bi .len (.cons (.v 2) .nil)) (.k (.int 3))) (.cons (.not (.call 2 (.cons (.bi .len (.cons (.v 0) .nil)) (.cons (.idx (.v 2) (.k (.int 1))) .nil)) [] .nil)) (.cons (.not (.call 3 (.cons (.idx (.v 0) (.idx (.v 2) (.k (.int 1)))) (.cons (.idx (.v 2) (.k (.int 2))) .nil)) [] .nil)) .nil))))
    (.cons (.ret (.k (.bl false)))
    .nil)
    .nil)
    (.cons (.ret (.bi .all (.cons (.comp [("one", 3)] (.call 38 (.cons (.v 1) (.cons (.v 3) .nil)) [] .nil) (.nm 3) (.sq (.idx (.v 2) (.k (.int 2)))) .none) .nil)))
    .nil))⟩
def f_is_body : Fn := ⟨"is_body", ["heads", "names", "thing"], ["heads", "names", "thing", "word", "one"],
    (.cons (.ifs (.bool false (.cons (.not (.call 3 (.cons (.k .non) (.cons (.v 2) .nil)) [] .nil)) (.cons (.cmp .eq (.v 2) (.tup .nil)) (.cons (.not (.isin (.idx (.v 2) (.k (.int 0))) [.str])) .nil))))
    (.cons (.ret (.k (.bl false)))
    .nil)
    .nil)
    (.cons (.set (.nm 3) (.idx (.v 2) (.k (.int 0))))
    (.cons (.ifs (.cmp .eq (.v 3) (.gl "CALL" (.str ("call" : Str))))
    (.cons (.ret (.call 63 (.cons (.v 0) (.cons (.v 1) (.cons (.v 2) .nil))) [] .nil))
    .nil)
    .nil)
    (.cons (.ifs (.cmp .isin (.v 3) (.gl "LISTS" (.tup [(.str ("both" : Str)), (.str ("either" : Str))])))
    (.cons (.ifs (.bool false (.cons (.cmp .ne (.bi .len (.cons (.v 2) .nil)) (.k (.int 2))) (.cons (.not (.call 3 (.cons (.k .non) (.cons (.idx (.v 2) (.k (.int 1))) .nil)) [] .nil)) (.cons (.cmp .eq (.idx (.v 2) (.k (.int 1))) (.tup .nil)) .nil))))
    (.cons (.ret (.k (.bl false)))
    .nil)
    .nil)
    (.cons (.ret (.bi .all (.cons (.comp [("one", 4)] (.call 64 (.cons (.v 0) (.cons (.v 1) (.cons (.v 4) .nil))) [] .nil) (.nm 4) (.sq (.idx (.v 2) (.k (.int 1)))) .none) .nil)))
    .nil))
    .nil)
    (.cons (.ifs (.cmp .isin (.v 3) (.gl "QUANTIFIERS" (.tup [(.str ("some" : Str)), (.str ("all" : Str))])))
    (.cons (.ret (.bool true (.cons (.cmp .eq (.bi .len (.cons (.v 2) .nil)) (.k (.int 2))) (.cons (.call 64 (.cons (.v 0) (.cons (.op .add (.v 1) (.k (.int 1))) (.cons (.idx (.v 2) (.k (.int 1))) .nil))) [] .nil) .nil))))
    .nil)
    .nil)
    (.cons (.ret (.call 59 (.cons (.v 1) (.cons (.v 2) .nil)) [] .nil))
    .nil))))))⟩
def f_is_rule : Fn := ⟨"is_rule", ["heads", "thing"], ["heads", "thing"],
    (.cons (.ifs (.bool false (.cons (.not (.call 3 (.cons (.k (.int 3)) (.cons (.v 1) .nil)) [] .nil)) (.cons (.not (.call 2 (.cons (.bi .len (.cons (.v 0) .nil)) (.cons (.idx (.v 1) (.k (.int 0))) .nil)) [] .nil)) (.cons (.not (.call 1 (.cons (.idx (.v 0) (.idx (.v 1) (.k (.int 0)))) (.cons (.idx (.v 1) (.k (.int 1))) .nil)) [] .nil)) .nil))))
    (.cons (.ret (.k (.bl false)))
    .nil)
    .nil)
    (.cons (.ret (.call 64 (.cons (.v 0) (.cons (.idx (.v 1) (.k (.int 1))) (.cons (.idx (.v 1) (.k (.int 2))) .nil))) [] .nil))
    .nil))⟩
def f_defining_fault : Fn := ⟨"defining_fault", ["value"], ["value", "index", "rule", "one"],
    (.cons (.ifs (.not (.call 3 (.cons (.k (.int 2)) (.cons (.v 0) .nil)) [] .nil))
    (.cons (.ret (.tup .nil))
    .nil)
    .nil)
    (.cons (.ifs (.bool false (.cons (.not (.call 3 (.cons (.k .non) (.cons (.idx (.v 0) (.k (.int 0))) .nil)) [] .nil)) (.cons (.not (.bi .all (.cons (.comp [("one", 3)] (.call 1 (.cons (.k (.int 0)) (.cons (.v 3) .nil)) [] .nil) (.nm 3) (.sq (.idx (.v 0) (.k (.int 0)))) .none) .nil))) .nil)))
    (.cons (.ret (.tup (.cons (.k (.int 0)) .nil)))
    .nil)
    .nil)
    (.cons (.ifs (.not (.isin (.idx (.v 0) (.k (.int 1))) [.tup]))
    (.cons (.ret (.tup (.cons (.k (.int 1)) .nil)))
    .nil)
    .nil)
    (.cons (.for (.tup [1, 2]) (.enm (.idx (.v 0) (.k (.int 1))))
    (.cons (.ifs (.not (.call 65 (.cons (.idx (.v 0) (.k (.int 0))) (.cons (.v 2) .nil)) [] .nil))
    (.cons (.ret (.tup (.cons (.k (.int 1)) (.cons (.v 1) .nil))))
    .nil)
    .nil)
    .nil))
    (.cons (.ret (.k .non))
    .nil)))))⟩
def f_is_defining : Fn := ⟨"is_defining", ["value"], ["value"],
    (.cons (.ret (.cmp .is (.call 66 (.cons (.v 0) .nil) [] .nil) (.k .non)))
    .nil)⟩
def f_check_defining : Fn := ⟨"check_defining", ["thing"], ["thing", "part"],
    (.cons (.set (.nm 1) (.call 66 (.cons (.v 0) .nil) [] .nil))
    (.cons (.ifs (.cmp .isnot (.v 1) (.k .non))
    (.cons (.raiseF "InvalidDefining" "part" (.v 1))
    .nil)
    .nil)
    .nil))⟩
def f_numbers_of : Fn := ⟨"numbers_of", ["body"], ["body", "word", "one"],
    (.cons (.set (.nm 1) (.idx (.v 0) (.k (.int 0))))
    (.cons (.ifs (.cmp .eq (.v 1) (.gl "CALL" (.str ("call" : Str))))
    (.cons (.ret (.call 40 (.cons (.lst (.cons (.comp [("one", 2)] (.v 2) (.nm 2) (.sq (.idx (.v 0) (.k (.int 2)))) (.some (.isin (.v 2) [.tup]))) .nil)) .nil) [] .nil))
    .nil)
    .nil)
    (.cons (.ifs (.cmp .isin (.v 1) (.gl "LISTS" (.tup [(.str ("both" : Str)), (.str ("either" : Str))])))
    (.cons (.ret (.call 40 (.cons (.comp [("one", 2)] (.call 69 (.cons (.v 2) .nil) [] .nil) (.nm 2) (.sq (.idx (.v 0) (.k (.int 1)))) .none) .nil) [] .nil))
    .nil)
    .nil)
    (.cons (.ret (.ife (.cmp .isin (.v 1) (.gl "QUANTIFIERS" (.tup [(.str ("some" : Str)), (.str ("all" : Str))]))) (.call 69 (.cons (.idx (.v 0) (.k (.int 1))) .nil) [] .nil) (.call 61 (.cons (.v 0) .nil) [] .nil)))
    .nil))))⟩
def f_constants_of : Fn := ⟨"constants_of", ["defining"], ["defining", "head", "names", "body"],
    (.cons (.ret (.call 40 (.cons (.comp [("head", 1), ("names", 2), ("body", 3)] (.call 69 (.cons (.v 3) .nil) [] .nil) (.tup [1, 2, 3]) (.sq (.idx (.v 0) (.k (.int 1)))) .none) .nil) [] .nil))
    .nil)⟩
def f_body_holds : Fn := ⟨"body_holds", ["constants", "lots", "body", "place"], ["constants", "lots", "body", "place", "word", "one"],
    (.cons (.set (.nm 4) (.idx (.v 2) (.k (.int 0))))
    (.cons (.ifs (.cmp .eq (.v 4) (.gl "CALL" (.str ("call" : Str))))
    (.cons (.ret (.cmp .isin (.call 48 (.cons (.v 0) (.cons (.bi .tuple (.cons (.comp [("one", 5)] (.call 39 (.cons (.v 5) (.cons (.v 3) .nil)) [] .nil) (.nm 5) (.sq (.idx (.v 2) (.k (.int 2)))) .none) .nil)) .nil)) [] .nil) (.idx (.v 1) (.idx (.v 2) (.k (.int 1))))))
    .nil)
    .nil)
    (.cons (.ifs (.cmp .eq (.v 4) (.k (.str ("both" : Str))))
    (.cons (.ret (.bi .all (.cons (.comp [("one", 5)] (.call 71 (.cons (.v 0) (.cons (.v 1) (.cons (.v 5) (.cons (.v 3) .nil)))) [] .nil) (.nm 5) (.sq (.idx (.v 2) (.k (.int 1)))) .none) .nil)))
    .nil)
    .nil)
    (.cons (.ifs (.cmp .eq (.v 4) (.k (.str ("either" : Str))))
    (.cons (.ret (.bi .any (.cons (.comp [("one", 5)] (.call 71 (.cons (.v 0) (.cons (.v 1) (.cons (.v 5) (.cons (.v 3) .nil)))) [] .nil) (.nm 5) (.sq (.idx (.v 2) (.k (.int 1)))) .none) .nil)))
    .nil)
    .nil)
    (.cons (.ifs (.cmp .eq (.v 4) (.k (.str ("some" : Str))))
    (.cons (.ret (.bi .any (.cons (.comp [("one", 5)] (.call 71 (.cons (.v 0) (.cons (.v 1) (.cons (.idx (.v 2) (.k (.int 1))) (.cons (.op .add (.v 3) (.tup (.cons (.v 5) .nil))) .nil)))) [] .nil) (.nm 5) (.sq (.call 55 (.cons (.v 0) (.cons (.v 3) .nil)) [] .nil)) .none) .nil)))
    .nil)
    .nil)
    (.cons (.ifs (.cmp .eq (.v 4) (.k (.str ("all" : Str))))
    (.cons (.ret (.bi .all (.cons (.comp [("one", 5)] (.call 71 (.cons (.v 0) (.cons (.v 1) (.cons (.idx (.v 2) (.k (.int 1))) (.cons (.op .add (.v 3) (.tup (.cons (.v 5) .nil))) .nil)))) [] .nil) (.nm 5) (.sq (.call 55 (.cons (.v 0) (.cons (.v 3) .nil)) [] .nil)) .none) .nil)))
    .nil)
    .nil)
    (.cons (.ret (.call 62 (.cons (.v 0) (.cons (.v 2) (.cons (.v 3) .nil))) [] .nil))
    .nil)))))))⟩
def f_steps_in : Fn := ⟨"steps_in", ["defining", "constants"], ["defining", "constants", "found", "head", "names", "body", "cell", "place"],
    (.cons (.set (.nm 2) (.lst .nil))
    (.cons (.for (.tup [3, 4, 5]) (.sq (.idx (.v 0) (.k (.int 1))))
    (.cons (.for (.nm 6) (.sq (.call 46 (.cons (.v 4) (.cons (.v 1) .nil)) [] .nil))
    (.cons (.set (.nm 7) (.call 50 (.cons (.v 1) (.cons (.v 6) .nil)) [] .nil))
    (.cons (.ex (.meth .append (.v 2) (.cons (.tup (.cons (.v 3) (.cons (.call 48 (.cons (.v 1) (.cons (.slice (.v 7) .none (.some (.idx (.idx (.v 0) (.k (.int 0))) (.v 3)))) .nil)) [] .nil) (.cons (.v 5) (.cons (.v 7) .nil))))) .nil)))
    .nil)))
    .nil))
    (.cons (.ret (.v 2))
    .nil)))⟩
def f_taken_on : Fn := ⟨"taken_on", ["steps", "constants", "lots"], ["steps", "constants", "lots", "found", "head", "cell", "body", "place"],
    (.cons .any
    (.cons (.for (.tup [4, 5, 6, 7]) (.sq (.v 0))
    (.cons (.ifs (.bool true (.cons (.cmp .notin (.v 5) (.idx (.v 2) (.v 4))) (.cons (.cmp .notin (.tup (.cons (.v 4) (.cons (.v 5) .nil))) (.v 3)) (.cons (.call 71 (.cons (.v 1) (.cons (.v 2) (.cons (.v 6) (.cons (.v 7) .nil)))) [] .nil) .nil))))
    (.cons (.setI (.v 3) (.tup (.cons (.v 4) (.cons (.v 5) .nil))) (.k (.bl true)))
    .nil)
    .nil)
    .nil))
    (.cons (.ret (.bi .list (.cons (.v 3) .nil)))
    .nil)))⟩
def f_grown_lots : Fn := ⟨"grown_lots", ["defining"], ["defining", "fresh", "constants", "many", "steps", "lots", "head", "cell", "row"],
    (.cons (.set (.tup [2, 3]) (.tup (.cons (.call 70 (.cons (.v 0) .nil) [] .nil) (.cons (.k (.int 0)) .nil))))
    (.cons .any
    (.cons (.set (.nm 1) (.call 73 (.cons (.v 4) (.cons (.v 2) (.cons (.v 5) .nil))) [] .nil))
    (.cons .any
    (.cons (.ret (.tup (.cons (.v 2) (.cons (.v 5) (.cons (.v 3) .nil)))))
    .nil)))))⟩
def f_least_tables : Fn := ⟨"least_tables", ["defining"], ["defining", "constants", "lots", "many", "names", "row"],
    (.cons (.ex (.call 68 (.cons (.v 0) .nil) [] .nil))
    (.cons (.set (.tup [1, 2, 3]) (.call 74 (.cons (.v 0) .nil) [] .nil))
    (.cons .any
    .nil)))⟩
def f_rounds : Fn := ⟨"rounds", ["defining"], ["defining"],
    (.cons (.ex (.call 68 (.cons (.v 0) .nil) [] .nil))
    (.cons (.ret (.idx (.call 74 (.cons (.v 0) .nil) [] .nil) (.k (.int 2))))
    .nil))⟩
def f_satisfy : Fn := ⟨"satisfy", ["defining", "tables"], ["defining", "tables", "constants", "lots", "table", "cell"],
    (.cons (.ex (.call 68 (.cons (.v 0) .nil) [] .nil))
    (.cons (.set (.nm 2) (.call 40 (.cons (.op .add (.lst (.cons (.call 70 (.cons (.v 0) .nil) [] .nil) .nil)) (.comp [("table", 4)] (.idx (.v 4) (.k (.int 1))) (.nm 4) (.sq (.v 1)) .none)) .nil) [] .nil))
    (.cons .any
    (.cons (.ret (.cmp .eq (.call 73 (.cons (.call 72 (.cons (.v 0) (.cons (.v 2) .nil)) [] .nil) (.cons (.v 2) (.cons (.v 3) .nil))) [] .nil) (.lst .nil)))
    .nil))))⟩
def f__law_term : Fn := ⟨"_law_term", ["source", "names", "pool"], ["source", "names", "pool", "at"],
    (.cons (.set (.nm 3) (.call 17 (.cons (.v 0) (.cons (.op .add (.v 1) (.bi .len (.cons (.v 2) .nil))) .nil)) [] .nil))
    (.cons (.ret (.ife (.cmp .lt (.v 3) (.v 1)) (.v 3) (.idx (.v 2) (.op .sub (.v 3) (.v 1)))))
    .nil))⟩
def f__law_formula : Fn := ⟨"_law_formula", ["source", "names", "pool", "size"], ["source", "names", "pool", "size", "way", "parts", "inner", "turn"],
    (.cons (.set (.nm 4) (.call 17 (.cons (.v 0) (.cons (.k (.int 10)) .nil)) [] .nil))
    (.cons (.ifs (.bool true (.cons (.cmp .eq (.op .add (.v 1) (.bi .len (.cons (.v 2) .nil))) (.k (.int 0))) (.cons (.bool false (.cons (.cmp .eq (.v 3) (.k (.int 0))) (.cons (.cmp .lt (.v 4) (.k (.int 5))) .nil))) .nil)))
    (.cons (.ret (.tup (.cons (.k (.str ("yes" : Str))) .nil)))
    .nil)
    .nil)
    (.cons (.ifs (.bool false (.cons (.cmp .eq (.v 3) (.k (.int 0))) (.cons (.cmp .lt (.v 4) (.k (.int 5))) .nil)))
    (.cons (.ret (.tup (.cons (.call 18 (.cons (.v 0) (.cons (.lst (.cons (.k (.str ("less" : Str))) (.cons (.k (.str ("less" : Str))) (.cons (.k (.str ("same" : Str))) .nil)))) .nil)) [] .nil) (.cons (.call 78 (.cons (.v 0) (.cons (.v 1) (.cons (.v 2) .nil))) [] .nil) (.cons (.call 78 (.cons (.v 0) (.cons (.v 1) (.cons (.v 2) .nil))) [] .nil) .nil)))))
    .nil)
    .nil)
    (.cons (.ifs (.cmp .eq (.v 4) (.k (.int 5)))
    (.cons (.ret (.tup (.cons (.k (.str ("not" : Str))) (.cons (.call 79 (.cons (.v 0) (.cons (.v 1) (.cons (.v 2) (.cons (.op .sub (.v 3) (.k (.int 1))) .nil)))) [] .nil) .nil))))
    .nil)
    .nil)
    (.cons (.ifs (.cmp .eq (.v 4) (.k (.int 6)))
    (.cons (.set (.nm 6) (.comp [("turn", 7)] (.call 79 (.cons (.v 0) (.cons (.op .add (.v 1) (.k (.int 1))) (.cons (.v 2) (.cons (.k (.int 0)) .nil)))) [] .nil) (.nm 7) (.rng1 (.op .add (.k (.int 1)) (.call 17 (.cons (.v 0) (.cons (.k (.int 2)) .nil)) [] .nil))) .none))
    (.cons (.ret (.tup (.cons (.call 18 (.cons (.v 0) (.cons (.lst (.cons (.k (.str ("some" : Str))) (.cons (.k (.str ("all" : Str))) .nil))) .nil)) [] .nil) (.cons (.ife (.cmp .gt (.bi .len (.cons (.v 6) .nil)) (.k (.int 1))) (.tup (.cons (.call 18 (.cons (.v 0) (.cons (.lst (.cons (.k (.str ("both" : Str))) (.cons (.k (.str ("either" : Str))) .nil))) .nil)) [] .nil) (.cons (.bi .tuple (.cons (.v 6) .nil)) .nil))) (.idx (.v 6) (.k (.int 0)))) .nil))))
    .nil))
    .nil)
    (.cons (.set (.nm 5) (.comp [("turn", 7)] (.call 79 (.cons (.v 0) (.cons (.v 1) (.cons (.v 2) (.cons (.op .sub (.v 3) (.k (.int 1))) .nil)))) [] .nil) (.nm 7) (.rng1 (.op .add (.k (.int 1)) (.call 17 (.cons (.v 0) (.cons (.k (.int 2)) .nil)) [] .nil))) .none))
    (.cons (.ret (.tup (.cons (.ife (.cmp .lt (.v 4) (.k (.int 9))) (.k (.str ("both" : Str))) (.k (.str ("either" : Str)))) (.cons (.bi .tuple (.cons (.v 5) .nil)) .nil))))
    .nil)))))))⟩
def f__law_body : Fn := ⟨"_law_body", ["source", "heads", "names", "pool", "size"], ["source", "heads", "names", "pool", "size", "way", "parts", "head", "turn"],
    (.cons (.set (.nm 5) (.call 17 (.cons (.v 0) (.cons (.k (.int 10)) .nil)) [] .nil))
    (.cons (.ifs (.bool false (.cons (.cmp .lt (.v 5) (.k (.int 3))) (.cons (.bool true (.cons (.cmp .eq (.v 4) (.k (.int 0))) (.cons (.cmp .lt (.v 5) (.k (.int 7))) .nil))) .nil)))
    (.cons (.set (.nm 7) (.call 17 (.cons (.v 0) (.cons (.bi .len (.cons (.v 1) .nil)) .nil)) [] .nil))
    (.cons (.ifs (.bool false (.cons (.cmp .gt (.op .add (.v 2) (.bi .len (.cons (.v 3) .nil))) (.k (.int 0))) (.cons (.cmp .eq (.idx (.v 1) (.v 7)) (.k (.int 0))) .nil)))
    (.cons (.ret (.tup (.cons (.k (.str ("call" : Str))) (.cons (.v 7) (.cons (.bi .tuple (.cons (.comp [("turn", 8)] (.call 78 (.cons (.v 0) (.cons (.v 2) (.cons (.v 3) .nil))) [] .nil) (.nm 8) (.rng1 (.idx (.v 1) (.v 7))) .none) .nil)) .nil)))))
    .nil)
    .nil)
    .nil))
    .nil)
    (.cons (.ifs (.bool false (.cons (.cmp .eq (.v 4) (.k (.int 0))) (.cons (.cmp .lt (.v 5) (.k (.int 5))) .nil)))
    (.cons (.ret (.call 79 (.cons (.v 0) (.cons (.v 2) (.cons (.v 3) (.cons (.k (.int 0)) .nil)))) [] .nil))
    .nil)
    .nil)
    (.cons (.ifs (.cmp .eq (.v 5) (.k (.int 5)))
    (.cons (.ret (.tup (.cons (.k (.str ("not" : Str))) (.cons (.call 79 (.cons (.v 0) (.cons (.v 2) (.cons (.v 3) (.cons (.k (.int 0)) .nil)))) [] .nil) .nil))))
    .nil)
    .nil)
    (.cons (.ifs (.cmp .eq (.v 5) (.k (.int 6)))
    (.cons (.ret (.tup (.cons (.call 18 (.cons (.v 0) (.cons (.lst (.cons (.k (.str ("some" : Str))) (.cons (.k (.str ("some" : Str))) (.cons (.k (.str ("all" : Str))) .nil)))) .nil)) [] .nil) (.cons (.call 80 (.cons (.v 0) (.cons (.v 1) (.cons (.op .add (.v 2) (.k (.int 1))) (.cons (.v 3) (.cons (.k (.int 0)) .nil))))) [] .nil) .nil))))
    .nil)
    .nil)
    (.cons (.set (.nm 6) (.comp [("turn", 8)] (.call 80 (.cons (.v 0) (.cons (.v 1) (.cons (.v 2) (.cons (.v 3) (.cons (.op .sub (.v 4) (.k (.int 1))) .nil))))) [] .nil) (.nm 8) (.rng1 (.k (.int 2))) .none))
    (.cons (.ret (.tup (.cons (.ife (.cmp .lt (.v 5) (.k (.int 9))) (.k (.str ("both" : Str))) (.k (.str ("either" : Str)))) (.cons (.bi .tuple (.cons (.v 6) .nil)) .nil))))
    .nil)))))))⟩
def f__law_defining : Fn := ⟨"_law_defining", ["source", "pool"], ["source", "pool", "heads", "rules", "turn", "head", "names", "body"],
    (.cons (.set (.nm 2) (.bi .tuple (.cons (.comp [("turn", 4)] (.call 18 (.cons (.v 0) (.cons (.lst (.cons (.k (.int 1)) (.cons (.k (.int 1)) (.cons (.k (.int 2)) (.cons (.k (.int 0)) .nil))))) .nil)) [] .nil) (.nm 4) (.rng1 (.op .add (.k (.int 1)) (.call 17 (.cons (.v 0) (.cons (.k (.int 3)) .nil)) [] .nil))) .none) .nil)))
    (.cons (.set (.nm 3) (.lst .nil))
    (.cons (.for (.nm 4) (.rng1 (.op .add (.k (.int 1)) (.call 17 (.cons (.v 0) (.cons (.k (.int 4)) .nil)) [] .nil)))
    (.cons (.set (.nm 5) (.call 17 (.cons (.v 0) (.cons (.bi .len (.cons (.v 2) .nil)) .nil)) [] .nil))
    (.cons (.set (.nm 6) (.op .add (.idx (.v 2) (.v 5)) (.ife (.cmp .lt (.idx (.v 2) (.v 5)) (.k (.int 2))) (.call 17 (.cons (.v 0) (.cons (.k (.int 2)) .nil)) [] .nil) (.k (.int 0)))))
    (.cons (.set (.nm 7) (.ife (.cmp .gt (.call 17 (.cons (.v 0) (.cons (.k (.int 3)) .nil)) [] .nil) (.k (.int 0))) (.call 80 (.cons (.v 0) (.cons (.v 2) (.cons (.v 6) (.cons (.v 1) (.cons (.k (.int 2)) .nil))))) [] .nil) (.call 79 (.cons (.v 0) (.cons (.v 6) (.cons (.v 1) (.cons (.k (.int 1)) .nil)))) [] .nil)))
    (.cons (.ex (.meth .append (.v 3) (.cons (.tup (.cons (.v 5) (.cons (.v 6) (.cons (.v 7) .nil)))) .nil)))
    .nil)))))
    (.cons (.ret (.tup (.cons (.v 2) (.cons (.bi .tuple (.cons (.v 3) .nil)) .nil))))
    .nil))))⟩
def f__law_caught : Fn := ⟨"_law_caught", ["way", "value"], ["way", "value", "part", "e"],
    (.cons (.set (.nm 2) (.k (.str ("let" : Str))))
    (.cons (.try xcs (.cons (.ifs (.cmp .eq (.v 0) (.k (.int 0)))
    (.cons (.ex (.call 75 (.cons (.v 1) .nil) [] .nil))
    .nil)
    (.cons (.ifs (.cmp .eq (.v 0) (.k (.int 1)))
    (.cons (.ex (.call 76 (.cons (.v 1) .nil) [] .nil))
    .nil)
    (.cons (.ex (.call 77 (.cons (.v 1) (.cons (.tup .nil) .nil)) [] .nil))
    .nil))
    .nil))
    .nil) (.as "InvalidDefining" 3 "part" 2 .nil))
    (.cons (.ret (.v 2))
    .nil)))⟩
def f__law_odd_rules : Fn := ⟨"_law_odd_rules", ["heads", "rule"], ["heads", "rule", "bodies", "odd", "head", "names", "body", "call", "many", "one"],
    (.cons (.set (.tup [4, 5, 6]) (.v 1))
    (.cons (.set (.tup [7, 8]) (.tup (.cons (.tup (.cons (.k (.str ("call" : Str))) (.cons (.v 4) (.cons (.op .mul (.tup (.cons (.k (.int 0)) .nil)) (.idx (.v 0) (.v 4))) .nil)))) (.cons (.bi .len (.cons (.v 0) .nil)) .nil))))
    (.cons (.set (.nm 2) (.lst (.cons (.tup (.cons (.k (.str ("not" : Str))) (.cons (.v 7) .nil))) (.cons (.tup (.cons (.k (.str ("all" : Str))) (.cons (.tup (.cons (.k (.str ("not" : Str))) (.cons (.v 7) .nil))) .nil))) (.cons (.tup (.cons (.k (.str ("both" : Str))) (.cons (.tup (.cons (.tup (.cons (.k (.str ("yes" : Str))) .nil)) (.cons (.tup (.cons (.k (.str ("not" : Str))) (.cons (.tup (.cons (.k (.str ("either" : Str))) (.cons (.tup (.cons (.v 7) (.cons (.tup (.cons (.k (.str ("yes" : Str))) .nil)) .nil))) .nil))) .nil))) .nil))) .nil))) (.cons (.tup (.cons (.k (.str ("call" : Str))) (.cons (.v 8) (.cons (.tup .nil) .nil)))) (.cons (.tup (.cons (.k (.str ("call" : Str))) (.cons (.neg (.k (.int 1))) (.cons (.tup .nil) .nil)))) .nil)))))))
    (.cons (.set (.nm 2) (.op .add (.v 2) (.lst (.cons (.tup (.cons (.k (.str ("call" : Str))) (.cons (.v 4) (.cons (.op .mul (.tup (.cons (.k (.int 0)) .nil)) (.op .add (.idx (.v 0) (.v 4)) (.k (.int 1)))) .nil)))) (.cons (.tup (.cons (.k (.str ("call" : Str))) (.cons (.v 4) (.cons (.op .mul (.lst (.cons (.tup (.cons (.k (.int 0)) (.cons (.k (.int 1)) .nil))) .nil)) (.idx (.v 0) (.v 4))) .nil)))) (.cons (.tup (.cons (.k (.str ("call" : Str))) (.cons (.v 4) .nil))) (.cons (.tup (.cons (.k (.str ("call" : Str))) (.cons (.k (.bl true)) (.cons (.tup .nil) .nil)))) (.cons (.k (.str ("yes" : Str))) .nil))))))))
    (.cons (.set (.nm 2) (.op .add (.v 2) (.lst (.cons (.tup (.cons (.k (.str ("same" : Str))) (.cons (.v 5) (.cons (.v 5) .nil)))) (.cons (.tup (.cons (.k (.str ("both" : Str))) (.cons (.tup .nil) .nil))) (.cons (.tup (.cons (.k (.str ("either" : Str))) (.cons (.lst (.cons (.tup (.cons (.k (.str ("yes" : Str))) .nil)) .nil)) .nil))) (.cons (.tup (.cons (.k (.str ("some" : Str))) (.cons (.tup (.cons (.k (.str ("same" : Str))) (.cons (.op .add (.v 5) (.k (.int 1))) (.cons (.k (.int 0)) .nil)))) .nil))) (.cons (.tup (.cons (.k (.str ("call" : Str))) (.cons (.v 4) (.cons (.ife (.cmp .gt (.idx (.v 0) (.v 4)) (.k (.int 0))) (.op .mul (.tup (.cons (.v 5) .nil)) (.idx (.v 0) (.v 4))) (.tup (.cons (.k (.int 0)) .nil))) .nil)))) .nil))))))))
    (.cons (.set (.nm 3) (.lst (.cons (.k .non) (.cons (.tup .nil) (.cons (.tup (.cons (.v 4) (.cons (.v 5) .nil))) (.cons (.tup (.cons (.v 4) (.cons (.v 5) (.cons (.v 6) (.cons (.k (.int 0)) .nil))))) (.cons (.lst (.cons (.v 4) (.cons (.v 5) (.cons (.v 6) .nil)))) (.cons (.tup (.cons (.v 8) (.cons (.v 5) (.cons (.v 6) .nil)))) (.cons (.tup (.cons (.neg (.k (.int 1))) (.cons (.v 5) (.cons (.v 6) .nil)))) (.cons (.tup (.cons (.k (.bl true)) (.cons (.v 5) (.cons (.tup (.cons (.k (.str ("yes" : Str))) .nil)) .nil)))) .nil))))))))))
    (.cons (.set (.nm 3) (.op .add (.v 3) (.lst (.cons (.tup (.cons (.k .non) (.cons (.v 5) (.cons (.v 6) .nil)))) (.cons (.tup (.cons (.v 4) (.cons (.op .sub (.idx (.v 0) (.v 4)) (.k (.int 1))) (.cons (.tup (.cons (.k (.str ("yes" : Str))) .nil)) .nil)))) (.cons (.tup (.cons (.v 4) (.cons (.k (.bl true)) (.cons (.tup (.cons (.k (.str ("yes" : Str))) .nil)) .nil)))) (.cons (.tup (.cons (.v 4) (.cons (.k (.str ("1" : Str))) (.cons (.v 6) .nil)))) (.cons (.tup (.cons (.v 4) (.cons (.k .non) (.cons (.v 6) .nil)))) (.cons (.tup (.cons (.v 4) (.cons (.v 5) (.cons (.k .non) .nil)))) .nil)))))))))
    (.cons (.ret (.op .add (.v 3) (.comp [("one", 9)] (.tup (.cons (.v 4) (.cons (.v 5) (.cons (.v 9) .nil)))) (.nm 9) (.sq (.v 2)) .none)))
    .nil))))))))⟩
def f__law_bent : Fn := ⟨"_law_bent", ["source", "value"], ["source", "value", "at", "later", "wrong", "ways", "heads", "rules"],
    (.cons (.set (.tup [6, 7]) (.v 1))
    (.cons (.set (.nm 2) (.call 17 (.cons (.v 0) (.cons (.op .add (.bi .len (.cons (.v 7) .nil)) (.k (.int 1))) .nil)) [] .nil))
    (.cons (.set (.nm 3) (.op .add (.op .add (.slice (.v 7) .none (.some (.v 2))) (.tup (.cons (.call 18 (.cons (.v 0) (.cons (.call 83 (.cons (.v 6) (.cons (.idx (.v 7) (.k (.int 0))) .nil)) [] .nil) .nil)) [] .nil) .nil))) (.slice (.v 7) (.some (.v 2)) .none)))
    (.cons (.set (.nm 4) (.call 18 (.cons (.v 0) (.cons (.lst (.cons (.bi .list (.cons (.v 6) .nil)) (.cons (.op .add (.v 6) (.tup (.cons (.neg (.k (.int 1))) .nil))) (.cons (.op .add (.v 6) (.tup (.cons (.k (.bl true)) .nil))) (.cons (.k .non) (.cons (.k (.str ("1" : Str))) (.cons (.op .add (.v 6) (.tup (.cons (.tup (.cons (.k (.int 1)) .nil)) .nil))) (.cons (.k (.int 3)) (.cons (.op .add (.v 6) (.tup (.cons (.k .non) .nil))) .nil))))))))) .nil)) [] .nil))
    (.cons (.set (.nm 5) (.lst (.cons (.tup (.cons (.tup (.cons (.v 6) .nil)) (.cons (.tup .nil) .nil))) (.cons (.tup (.cons (.op .add (.v 1) (.tup (.cons (.k (.int 0)) .nil))) (.cons (.tup .nil) .nil))) (.cons (.tup (.cons (.bi .list (.cons (.v 1) .nil)) (.cons (.tup .nil) .nil))) (.cons (.tup (.cons (.k .non) (.cons (.tup .nil) .nil))) (.cons (.tup (.cons (.k (.str ("" : Str))) (.cons (.tup .nil) .nil))) (.cons (.tup (.cons (.tup (.cons (.v 4) (.cons (.v 7) .nil))) (.cons (.tup (.cons (.k (.int 0)) .nil)) .nil))) (.cons (.tup (.cons (.tup (.cons (.v 4) (.cons (.v 3) .nil))) (.cons (.tup (.cons (.k (.int 0)) .nil)) .nil))) (.cons (.tup (.cons (.tup (.cons (.v 4) (.cons (.k .non) .nil))) (.cons (.tup (.cons (.k (.int 0)) .nil)) .nil))) .nil))))))))))
    (.cons (.set (.nm 5) (.op .add (.v 5) (.lst (.cons (.tup (.cons (.tup (.cons (.v 6) (.cons (.bi .list (.cons (.v 7) .nil)) .nil))) (.cons (.tup (.cons (.k (.int 1)) .nil)) .nil))) (.cons (.tup (.cons (.tup (.cons (.v 6) (.cons (.k .non) .nil))) (.cons (.tup (.cons (.k (.int 1)) .nil)) .nil))) (.cons (.tup (.cons (.tup (.cons (.v 6) (.cons (.k (.str ("rules" : Str))) .nil))) (.cons (.tup (.cons (.k (.int 1)) .nil)) .nil))) (.cons (.tup (.cons (.tup (.cons (.v 6) (.cons (.op .add (.v 3) (.tup (.cons (.k .non) .nil))) .nil))) (.cons (.tup (.cons (.k (.int 1)) (.cons (.v 2) .nil))) .nil))) .nil)))))))
    (.cons (.ret (.call 18 (.cons (.v 0) (.cons (.op .add (.v 5) (.op .mul (.lst (.cons (.tup (.cons (.tup (.cons (.v 6) (.cons (.v 3) .nil))) (.cons (.tup (.cons (.k (.int 1)) (.cons (.v 2) .nil))) .nil))) .nil)) (.k (.int 8)))) .nil)) [] .nil))
    .nil)))))))⟩
def f__law_right : Fn := ⟨"_law_right", ["source"], ["source", "value", "kept", "turn", "bent", "part"],
    (.cons (.set (.nm 1) (.call 81 (.cons (.v 0) (.cons (.call 24 (.cons (.v 0) (.cons (.k (.int 2)) .nil)) [] .nil) .nil)) [] .nil))
    (.cons (.set (.nm 2) (.bi .repr (.cons (.v 1) .nil)))
    (.cons (.ifs (.bool false (.cons (.cmp .isnot (.call 66 (.cons (.v 1) .nil) [] .nil) (.k .non)) (.cons (.cmp .isnot (.call 67 (.cons (.v 1) .nil) [] .nil) (.k (.bl true))) (.cons (.not (.call 19 (.cons (.call 66 (.cons (.tup (.cons (.tup .nil) (.cons (.tup .nil) .nil))) .nil) [] .nil) (.cons (.k .non) .nil)) [] .nil)) .nil))))
    (.cons (.ret (.k (.bl false)))
    .nil)
    .nil)
    (.cons (.for (.nm 3) (.rng1 (.k (.int 10)))
    (.cons (.set (.tup [4, 5]) (.call 84 (.cons (.v 0) (.cons (.v 1) .nil)) [] .nil))
    (.cons (.ifs (.bool false (.cons (.not (.call 19 (.cons (.call 66 .nil [0] (.cons (.v 4) .nil)) (.cons (.v 5) .nil)) [] .nil)) (.cons (.cmp .isnot (.call 67 .nil [0] (.cons (.v 4) .nil)) (.k (.bl false))) .nil)))
    (.cons (.ret (.k (.bl false)))
    .nil)
    .nil)
    (.cons (.ifs (.not (.call 19 (.cons (.call 82 (.cons (.call 17 (.cons (.v 0) (.cons (.k (.int 3)) .nil)) [] .nil) (.cons (.v 4) .nil)) [] .nil) (.cons (.v 5) .nil)) [] .nil))
    (.cons (.ret (.k (.bl false)))
    .nil)
    .nil)
    .nil))))
    (.cons (.ret (.cmp .eq (.bi .repr (.cons (.v 1) .nil)) (.v 2)))
    .nil)))))⟩
def f_law : Fn := ⟨"law", ["script"], ["script", "at"],
    (.cons (.for (.nm 1) (.rng1 (.bi .max2 (.cons (.k (.int 2)) (.cons (.bi .min2 (.cons (.k (.int 5)) (.cons (.bi .len (.cons (.v 0) .nil)) .nil))) .nil))))
    (.cons (.ifs (.not (.call 85 (.cons (.call 16 (.cons (.v 0) (.cons (.v 1) .nil)) [] .nil) .nil) [] .nil))
    (.cons (.ret (.k (.bl false)))
    .nil)
    .nil)
    .nil))
    (.cons (.ret (.k (.bl true)))
    .nil))⟩
def prg : Prg := [f_is_integer, f_is_from, f_is_below, f_is_tuple, f_is_integer, f_is_number, f_ahead, f_is_integer, f_is_integer, f_is_integer, f_is_integer, f_is_integer, f_is_integer, f_is_integer, f_is_integer, f_is_integer, f__law_source, f__law_draw, f__law_pick, f__law_same, f__law_ahead, f__law_low, f__law_sorted, f__law_number, f__law_constants, f_is_integer, f_is_integer, f_is_integer, f_is_integer, f_is_integer, f_is_integer, f_is_integer, f_lowest, f_plus_in, f_minus_in, f_times_in, f_over_in, f_in_sequence, f_is_term, f_term_worth, f_together, f_middle_in, f_pairs_below, f_heights, f_raised, f_extended, f_cells_in, f_slot_of, f_cell_in, f_number_at, f_sample_in, f_ways_in, f_renamed_pairs, f_finer_in, f_coarser_in, f_candidates, f_finer_table_in, f_left_out, f_least_in, f_is_formula_in, f_parts_of, f_numbers_in, f_true_by, f_is_call, f_is_body, f_is_rule, f_defining_fault, f_is_defining, f_check_defining, f_numbers_of, f_constants_of, f_body_holds, f_steps_in, f_taken_on, f_grown_lots, f_least_tables, f_rounds, f_satisfy, f__law_term, f__law_formula, f__law_body, f__law_defining, f__law_caught, f__law_odd_rules, f__law_bent, f__law_right, f_law]
end OC

namespace OC
open PySem PySem.Spec PyProof.Rows L2
theorem hb : HB prg := ⟨rfl, rfl, rfl, rfl, rfl, rfl, rfl, rfl, rfl, rfl, rfl, rfl, rfl⟩
section
variable {n : Nat} {G : GH} {ok : D → GH → Prop} {ex : Str → Option D → GH → Prop}
theorem bls_map {α : Type} (f : α → Bool) : ∀ l : List α, bls? (l.map fun x => D.bl (f x)) = some (l.map f)
  | [] => rfl
  | x :: l => by rw [List.map_cons]; show (bls? _).map _ = _; rw [bls_map f l]; rfl
/-- a comprehension that only puts on -/
theorem comp_all {turn : D → M (Option D)} {ys : List D} {f : D → D} {okk : Unit → GH → Prop} (hl : ys.length ≤ 1000) (hturn : ∀ x ∈ ys, ∀ (t : GH) (ok' : Option D → GH → Prop), (∀ t', ok' (some (f x)) (G ++ t ++ t')) → Post (turn x) (G ++ t) ok' noex)
    (h : ∀ t, (G ++ t)[G.length]? = some (.lst (ys.map f)) → okk () (G ++ t)) : Post (compG [] G.length turn ys) (G ++ [.lst []]) okk ex := by
  refine comp_go (fun i acc G' => acc = (ys.take i).map f ∧ ∃ t, G' = G ++ t) ⟨by simp, _, rfl⟩ get1 ?_ ?_
  · rintro i x acc G' hi hl' ⟨rfl, t, rfl⟩
    refine ⟨rfl, hturn x (List.mem_of_getElem? hi) t _ fun t' => ?_⟩
    have hlt := (List.getElem?_eq_some_iff.mp hi).1
    have e : ys.take (i + 1) = ys.take i ++ [x] := by
      rw [List.take_add_one, hi]; rfl
    refine ⟨get_app hl', by rw [sizeLine_eq, List.length_map, List.length_take]; omega, by rw [e]; simp, ?_⟩
    refine ⟨(t ++ t').set 0 (.lst ((ys.take i).map f ++ [f x])), ?_⟩
    rw [List.append_assoc, List.set_append_right _ _ (Nat.le_refl _)]
    simp
  · rintro acc G' hl' ⟨rfl, t, rfl⟩
    refine ⟨rfl, ?_⟩
    rw [List.take_length] at hl'
    exact h t hl'
/-- no tuple within is too long -/
def lnB : D → Bool
  | .tup xs => decide (xs.length ≤ 1000) && lnBs xs
  | _ => true
where
  lnBs : List D → Bool
    | [] => true
    | x :: xs => lnB x && lnBs xs
structure Wz (G : GH) (k : Nat) (d : D) : Prop where
  rz : Rz G k d
  ln : lnB d = true
theorem lnBs_mem : ∀ {xs : List D}, lnB.lnBs xs = true → ∀ x ∈ xs, lnB x = true
  | [], _, x, hx => by simp at hx
  | y :: ys, h, x, hx => by
    simp only [lnB.lnBs, Bool.and_eq_true] at h
    rcases List.mem_cons.mp hx with rfl | hx
    · exact h.1
    · exact lnBs_mem h.2 x hx
theorem lnBs_of : ∀ {xs : List D}, (∀ x ∈ xs, lnB x = true) → lnB.lnBs xs = true
  | [], _ => rfl
  | y :: ys, h => by
    simp only [lnB.lnBs, Bool.and_eq_true]
    exact ⟨h y List.mem_cons_self, lnBs_of fun z hz => h z (List.mem_cons_of_mem _ hz)⟩
theorem Wz.mem {k : Nat} {xs : List D} (h : Wz G (k + 1) (.tup xs)) : ∀ x ∈ xs, Wz G k x := fun x hx => by
  have := h.ln
  simp only [lnB, Bool.and_eq_true] at this
  exact ⟨h.rz.tup x hx, lnBs_mem this.2 x hx⟩
theorem Wz.len {k : Nat} {xs : List D} (h : Wz G k (.tup xs)) : xs.length ≤ 1000 := by
  have := h.ln
  simp only [lnB, Bool.and_eq_true, decide_eq_true_eq] at this
  exact this.1
theorem Wz.tupm {k : Nat} {xs : List D} (hl : xs.length ≤ 1000) (h : ∀ x ∈ xs, Wz G k x) : Wz G (k + 1) (.tup xs) :=
  ⟨Rz.mk fun x hx => (h x hx).rz, by simp only [lnB, Bool.and_eq_true]; exact ⟨decide_eq_true hl, lnBs_of fun x hx => (h x hx).ln⟩⟩
theorem Wz.app {t : GH} {k : Nat} {d : D} (h : Wz G k d) : Wz (G ++ t) k d := ⟨h.rz.app, h.ln⟩
theorem Wz.up {k j : Nat} {d : D} (h : Wz G k d) (hj : k ≤ j) : Wz G j d := ⟨h.rz.up hj, h.ln⟩
theorem Wz.kn {k : Nat} {d : D} (h : Wz G k d) : Kn G d := h.rz.kn
def termB (names : Int) (d : D) : Bool := belowB names d || numB d
theorem s_is_term {k : Nat} {names : Int} {d : D} (hd : Rz G k d) (h : ok (.bl (termB names d)) G) : Post (callN prg (n + 4) 38 [.int names, d]) G ok ex := by
  rw [p_call (fn := f_is_term) rfl rfl]
  unfold f_is_term
  walk_at "oc stt"
  walk_at "oc hd"
  refine s_is_below hb rfl hd.kn ?_
  unfold termB at h
  cases hb1 : belowB names d with
  | true => rw [hb1] at h; walk_at "oc hd"; exact h
  | false =>
    rw [hb1, Bool.false_or] at h
    walk_at "oc hd"
    exact s_is_number (n := n) hb rfl hd h
def fT2 (f : D → Bool) : List D → Bool
  | [t, u] => f t && f u
  | _ => false
def fL (f : D → Bool) : List D → Bool
  | [.tup ys] => !ys.isEmpty && ys.all f
  | _ => false
def f1 (f : D → Bool) : List D → Bool
  | [d] => f d
  | _ => false
/-- is a formula of so many names -/
def formB : Nat → Int → D → Bool
  | 0, _, _ => false
  | k + 1, names, .tup (x :: r) =>
    if strIs "less" x || strIs "same" x then fT2 (termB names) r
    else if strIs "both" x || strIs "either" x then fL (formB k names) r
    else if strIs "not" x then f1 (formB k names) r
    else if strIs "some" x || strIs "all" x then f1 (formB k (names + 1)) r
    else strIs "yes" x && r.isEmpty
  | _ + 1, _, _ => false
theorem atI2 {x y z : D} {xs : List D} : atI (x :: y :: z :: xs) 2 = some z := by
  simp only [atI, ixN, List.length_cons]
  rw [if_pos (by omega), if_pos (by omega)]
  rfl
theorem len_eq {xs : List D} {k : Nat} : ((xs.length : Int) == (k : Int)) = (xs.length == k) := by
  by_cases h : xs.length = k
  · subst h; simp
  · rw [beq_eq_false_iff_ne.mpr h, beq_eq_false_iff_ne.mpr (by omega)]
theorem all_id {f : D → Bool} {ys : List D} : (ys.map f).all id = ys.all f := by rw [List.all_map]; rfl
theorem ret_then {c : Calls} {E : IE} {ss : ISs} {σ : Env'} {okF : Fl → GH → Prop} {ex : Str → Option D → GH → Prop} (h : Post (den c E σ) G (fun d G1 => okF (.rt d) G1) (fun x v G1 => okF (.xn x v σ) G1)) : Post (denSs c (.cons (.ret E) ss) σ) G okF ex :=
  p_consS.mpr (p_ret.mpr h)
/-- two terms behind a word -/
def E2 : IE := .bool true (.cons (.cmp .eq (.bi .len (.cons (.v 1) .nil)) (.k (.int 3))) (.cons (.call 38 (.cons (.v 0) (.cons (.idx (.v 1) (.k (.int 1))) .nil)) [] .nil) (.cons (.call 38 (.cons (.v 0) (.cons (.idx (.v 1) (.k (.int 2))) .nil)) [] .nil) .nil)))
theorem len3 {r : List D} (h : r.length ≠ 2) : (((r.length + 1 : Nat) : Int) == 3) = false := beq_eq_false_iff_ne.mpr (by omega)
theorem len3' {r : List D} (h : r.length = 2) : (((r.length + 1 : Nat) : Int) == 3) = true := by rw [h]; rfl
theorem len2 {r : List D} (h : r.length ≠ 1) : (((r.length + 1 : Nat) : Int) == 2) = false := beq_eq_false_iff_ne.mpr (by omega)
theorem len2' {r : List D} (h : r.length = 1) : (((r.length + 1 : Nat) : Int) == 2) = true := by rw [h]; rfl
theorem two_of {r : List D} (h : r.length = 2) : ∃ y z, r = [y, z] := by
  match r, h with
  | [y, z], _ => exact ⟨y, z, rfl⟩
theorem one_of {r : List D} (h : r.length = 1) : ∃ y, r = [y] := by
  match r, h with
  | [y], _ => exact ⟨y, rfl⟩
theorem fT2_no {f : D → Bool} {r : List D} (h : r.length ≠ 2) : fT2 f r = false := by
  match r, h with
  | [], _ | [_], _ | _ :: _ :: _ :: _, _ => rfl
  | [_, _], h => exact absurd rfl h
theorem f1_no {f : D → Bool} {r : List D} (h : r.length ≠ 1) : f1 f r = false := by
  match r, h with
  | [], _ | _ :: _ :: _, _ => rfl
  | [_], h => exact absurd rfl h
theorem fL_no {f : D → Bool} {r : List D} (h : r.length ≠ 1) : fL f r = false := by
  match r, h with
  | [], _ | _ :: _ :: _, _ => (try rfl); (try (unfold fL; split <;> simp_all))
  | [_], h => exact absurd rfl h
theorem br2 {k m : Nat} {names : Int} {x w : D} {r : List D} {o : Option D} (hd : Wz G (k + 1) (.tup (x :: r))) (h : ok (.bl (fT2 (termB names) r)) G) :
    Post (den (callN prg (m + 4)) E2 [some (.int names), some (.tup (x :: r)), some w, o]) G ok ex := by
  unfold E2
  walk_at "oc hd"
  by_cases hl : r.length = 2
  · rw [len3' hl]
    obtain ⟨y, z, rfl⟩ := two_of hl
    have hy := hd.mem y (by simp)
    have hz := hd.mem z (by simp)
    simp only [fT2] at h
    walk_at "oc hd"
    refine s_is_term hy.rz ?_
    cases hb1 : termB names y with
    | false =>
      simp only [hb1, Bool.false_and] at h
      walk_at "oc hd"; exact h
    | true =>
      simp only [hb1, Bool.true_and] at h
      walk_at "oc hd"
      refine s_is_term hz.rz ?_
      exact h
  · rw [len3 hl]
    rw [fT2_no hl] at h
    walk_at "oc hd"
    exact h
/-- one thing behind a word -/
def E1 (f i : Nat) (a : IE) : IE := .bool true (.cons (.cmp .eq (.bi .len (.cons (.v i) .nil)) (.k (.int 2))) (.cons (.call f (.cons a (.cons (.idx (.v i) (.k (.int 1))) .nil)) [] .nil) .nil))
theorem br1 {f : Nat} {c : Calls} {nm names : Int} {a : IE} {x w : D} {r : List D} {o : Option D} {g : D → Bool} (ha : ∀ {ok : D → GH → Prop} {ex : Str → Option D → GH → Prop}, ok (.int names) G → Post (den c a [some (.int nm), some (.tup (x :: r)), some w, o]) G ok ex)
    (hc : ∀ y, r = [y] → ∀ {ok : D → GH → Prop} {ex : Str → Option D → GH → Prop}, (∀ t, ok (.bl (g y)) (G ++ t)) → Post (c f [.int names, y]) G ok ex) (h : ∀ t, ok (.bl (f1 g r)) (G ++ t)) :
    Post (den c (E1 f 1 a) [some (.int nm), some (.tup (x :: r)), some w, o]) G ok ex := by
  unfold E1
  walk_at "oc hd"
  by_cases hl : r.length = 1
  · rw [len2' hl]
    obtain ⟨y, rfl⟩ := one_of hl
    walk_at "oc hd"
    refine ha ?_
    walk_at "oc hd"
    exact hc y rfl h
  · rw [len2 hl]
    rw [f1_no hl] at h
    walk_at "oc hd"
    have := h []
    rwa [List.append_nil] at this
theorem s_tupN {d : D} (hd : Kn G d) (h : ok (.bl (isT d)) G) {m : Nat} : Post (callN prg (m + 1) 3 [.non, d]) G ok ex := s_is_tupleN hb hd h
/-- a tuple of things behind a word -/
def SLf : ISs := .cons (.ifs (.bool false (.cons (.cmp .ne (.bi .len (.cons (.v 1) .nil)) (.k (.int 2))) (.cons (.not (.call 3 (.cons (.k .non) (.cons (.idx (.v 1) (.k (.int 1))) .nil)) [] .nil)) (.cons (.cmp .eq (.idx (.v 1) (.k (.int 1))) (.tup .nil)) .nil))))
    (.cons (.ret (.k (.bl false)))
    .nil)
    .nil)
    (.cons (.ret (.bi .all (.cons (.comp [("one", 3)] (.call 59 (.cons (.v 0) (.cons (.v 3) .nil)) [] .nil) (.nm 3) (.sq (.idx (.v 1) (.k (.int 1)))) .none) .nil)))
    .nil)
theorem Wz.pos {k : Nat} {d : D} (h : Wz G k d) : ∃ j, k = j + 1 := by
  cases k with
  | zero => obtain ⟨p, e⟩ := h.rz; cases d <;> cases e
  | succ j => exact ⟨j, rfl⟩
theorem brLf {k m : Nat} {names : Int} {x w : D} {r : List D} {o : Option D} {g : D → Bool} {okF : Fl → GH → Prop} (hk : k ≤ 60) (hd : Wz G (k + 1) (.tup (x :: r)))
    (hc : ∀ y (G' : GH), Wz G' (k - 1) y → ∀ {ok : D → GH → Prop} {ex : Str → Option D → GH → Prop}, (∀ t, ok (.bl (g y)) (G' ++ t)) → Post (callN prg (m + 1) 59 [.int names, y]) G' ok ex) (h : ∀ t, okF (.rt (.bl (fL g r))) (G ++ t)) :
    Post (denSs (callN prg (m + 1)) SLf [some (.int names), some (.tup (x :: r)), some w, o]) G okF ex := by
  unfold SLf
  have h0 := h []
  rw [List.append_nil] at h0
  walk_at "oc hd"
  refine p_neI.mpr ?_
  by_cases hl : r.length = 1
  · rw [len2' hl]
    obtain ⟨y, rfl⟩ := one_of hl
    have hy := hd.mem y (by simp)
    simp only [Bool.not_true]
    walk_at "oc hd"
    refine s_tupN hy.kn ?_
    cases y with
    | tup ys =>
      simp only [isT, Bool.not_true]
      walk_at "oc hd"
      refine ⟨Nat.zero_le _, ?_⟩
      refine p_eqNil hy.rz (by omega) ?_
      cases hys : ys.isEmpty with
      | true =>
        simp only [fL, hys, Bool.not_true, Bool.false_and] at h0
        walk_at "oc hd"; exact h0
      | false =>
        simp only [fL, hys, Bool.not_false, Bool.true_and] at h
        walk_at "oc hd"
        refine comp_all (f := fun y => .bl (g y)) hy.len (fun y hm t ok' hok => ?_) fun t ht => ?_
        · refine p_turn0.mpr ?_
          dsimp only [wipeD, List.map_cons, List.map_nil, assignT, List.set_cons_zero, List.set_cons_succ]
          walk_at "oc hd"
          obtain ⟨j, rfl⟩ := hy.pos
          exact hc y _ (hy.mem y hm).app hok
        · walk_at "oc hd"
          refine (p_getL_loc ht).mpr ?_
          rw [bls_map]
          dsimp only
          rw [all_id]
          exact h t
    | _ =>
      simp only [fL] at h0
      simp only [isT, Bool.not_false]
      walk_at "oc hd"; exact h0
  · rw [len2 hl]
    rw [fL_no hl] at h0
    simp only [Bool.not_false]
    walk_at "oc hd"
    exact h0
theorem s_form : ∀ (k : Nat) {n : Nat} {G : GH} {ok : D → GH → Prop} {ex : Str → Option D → GH → Prop} {names : Int} {d : D}, k ≤ 60 → Wz G k d → (∀ t, ok (.bl (formB k names d)) (G ++ t)) →
    Post (callN prg (n + k + 5) 59 [.int names, d]) G ok ex
  | 0, n, G, ok, ex, names, d, hk, hd, h => by
    obtain ⟨p, e⟩ := hd.rz
    cases d <;> cases e
  | k + 1, n, G, ok, ex, names, d, hk, hd, h => by
    rw [show n + (k + 1) + 5 = (n + k + 5) + 1 by omega, p_call (fn := f_is_formula_in) rfl rfl]
    unfold f_is_formula_in
    walk_at "oc stt"
    walk_at "oc hd"
    rw [isTy_tup hd.kn]
    have h0 := h []
    rw [List.append_nil] at h0
    cases d with
    | tup xs =>
      simp only [isT, Bool.not_true]
      walk_at "oc hd"
      refine ⟨Nat.zero_le _, ?_⟩
      refine p_eqNil hd.rz (by omega) ?_
      cases xs with
      | nil => simp only [List.isEmpty_nil]; walk_at "oc hd"; exact h0
      | cons x r =>
        simp only [List.isEmpty_cons]
        walk_at "oc hd"
        have hx : Wz G k x := hd.mem x List.mem_cons_self
        have kx : k ≤ 64 := by omega
        refine p_eqS hx.rz kx ?_
        have rc : ∀ y (G' : GH) (nm : Int), Wz G' k y → ∀ {ok : D → GH → Prop} {ex : Str → Option D → GH → Prop}, (∀ t, ok (.bl (formB k nm y)) (G' ++ t)) → Post (callN prg (n + k + 5) 59 [.int nm, y]) G' ok ex :=
          fun y G' nm hy ok ex hok => s_form k (by omega) hy hok
        have key : formB (k + 1) names (.tup (x :: r)) = (if strIs "less" x || strIs "same" x then fT2 (termB names) r
            else if strIs "both" x || strIs "either" x then fL (formB k names) r
            else if strIs "not" x then f1 (formB k names) r
            else if strIs "some" x || strIs "all" x then f1 (formB k (names + 1)) r
            else strIs "yes" x && r.isEmpty) := rfl
        rw [key] at h h0
        cases w1 : strIs "less" x with
        | true =>
          walk_at "oc hdc"
          refine ret_then (br2 (m := n + k + 1) hd ?_)
          simpa only [w1, Bool.true_or, if_true] using h0
        | false =>
          walk_at "oc hdc"
          walk_at "oc hd"
          refine p_eqS hx.rz kx ?_
          cases w2 : strIs "same" x with
          | true =>
            walk_at "oc hdc"
            refine ret_then (br2 (m := n + k + 1) hd ?_)
            simpa only [w2, Bool.or_true, if_true] using h0
          | false =>
            simp only [w1, w2, Bool.or_false, Bool.false_eq_true, if_false] at h h0
            walk_at "oc hd"
            refine p_eqS hx.rz kx ?_
            have rec1 : ∀ y (G' : GH), Wz G' (k - 1) y → ∀ {ok : D → GH → Prop} {ex : Str → Option D → GH → Prop}, (∀ t, ok (.bl (formB k names y)) (G' ++ t)) → Post (callN prg (n + k + 4 + 1) 59 [.int names, y]) G' ok ex :=
              fun y G' hy ok ex hok => rc y G' names (hy.up (by omega)) hok
            cases w3 : strIs "both" x with
            | true =>
              walk_at "oc hdc"
              refine brLf (m := n + k + 4) (by omega) hd rec1 ?_
              simpa only [w3, Bool.true_or, if_true] using h
            | false =>
              walk_at "oc hdc"
              walk_at "oc hd"
              refine p_eqS hx.rz kx ?_
              cases w4 : strIs "either" x with
              | true =>
                walk_at "oc hdc"
                refine brLf (m := n + k + 4) (by omega) hd rec1 ?_
                simpa only [w4, Bool.or_true, if_true] using h
              | false =>
                simp only [w3, w4, Bool.or_false, Bool.false_eq_true, if_false] at h h0
                walk_at "oc hd"
                refine p_eqS hx.rz kx ?_
                cases w5 : strIs "not" x with
                | true =>
                  walk_at "oc hdc"
                  refine ret_then (br1 (f := 59) (a := .v 0) (nm := names) (names := names) (fun hh => by walk_at "oc hd"; exact hh) (fun y hy ok ex hok => rc y G names (by subst hy; exact hd.mem _ (by simp)) hok) ?_)
                  simpa only [w5, if_true] using h
                | false =>
                  simp only [w5, Bool.false_eq_true, if_false] at h h0
                  walk_at "oc hdc"
                  walk_at "oc hd"
                  refine p_eqS hx.rz kx ?_
                  have last : ∀ t, (strIs "some" x || strIs "all" x) = true → ok (.bl (f1 (formB k (names + 1)) r)) (G ++ t) := fun t hh => by
                    have := h t
                    rwa [if_pos hh] at this
                  cases w6 : strIs "some" x with
                  | true =>
                    walk_at "oc hdc"
                    refine ret_then (br1 (f := 59) (a := .op .add (.v 0) (.k (.int 1))) (nm := names) (names := names + 1) (fun hh => by walk_at "oc hd"; exact hh) (fun y hy ok ex hok => rc y G (names + 1) (by subst hy; exact hd.mem _ (by simp)) hok) ?_)
                    exact fun t => last t (by rw [w6]; rfl)
                  | false =>
                    walk_at "oc hdc"
                    walk_at "oc hd"
                    refine p_eqS hx.rz kx ?_
                    cases w7 : strIs "all" x with
                    | true =>
                      walk_at "oc hdc"
                      refine ret_then (br1 (f := 59) (a := .op .add (.v 0) (.k (.int 1))) (nm := names) (names := names + 1) (fun hh => by walk_at "oc hd"; exact hh) (fun y hy ok ex hok => rc y G (names + 1) (by subst hy; exact hd.mem _ (by simp)) hok) ?_)
                      exact fun t => last t (by rw [w6, w7]; rfl)
                    | false =>
                      simp only [w6, w7, Bool.or_false, Bool.false_eq_true, if_false] at h0
                      walk_at "oc hdc"
                      walk_at "oc hd"
                      refine p_eqOne hd.rz (by omega) ?_
                      have : oneIs "yes" (x :: r) = (strIs "yes" x && r.isEmpty) := by
                        cases r with
                        | nil => cases x <;> simp [oneIs, strIs]
                        | cons a b => cases x <;> simp [oneIs]
                      rw [this]
                      exact h0
    | _ => simp only [isT, Bool.not_false]; walk_at "oc hd"; exact h0
end
end OC

namespace OC
open PySem PySem.Spec PyProof.Rows L2
section
variable {n : Nat} {G : GH} {ok : D → GH → Prop} {ex : Str → Option D → GH → Prop}
def hdsD (js : List Int) : D := .tup (js.map D.int)
/-- the number at a head -/
def atJ (js : List Int) : D → Int
  | .int i => (js[i.toNat]?).getD 0
  | _ => 0
theorem atJ_ok {js : List Int} {a : D} (h : belowB js.length a = true) : ∃ i, a = .int i ∧ atI (js.map D.int) i = some (.int (atJ js a)) := by
  cases a with
  | int i =>
    have h : 0 ≤ i ∧ i < js.length := by simpa [belowB] using h
    refine ⟨i, rfl, ?_⟩
    unfold atI ixN
    rw [List.length_map, if_pos h.1, if_pos h.2]
    have hl : i.toNat < js.length := by omega
    simp [atJ, hl]
  | _ => cases h
def callT (js : List Int) (names : Int) : List D → Bool
  | [a, b] => belowB js.length a && (tupB (atJ js a) b && (match b with | .tup ts => ts.all (termB names) | _ => false))
  | _ => false
def tAll (f : D → Bool) : D → Bool
  | .tup ts => ts.all f
  | _ => false
theorem callT_two {js : List Int} {names : Int} {a b : D} : callT js names [a, b] = (belowB js.length a && (tupB (atJ js a) b && tAll (termB names) b)) := by
  unfold callT tAll; rfl
theorem callT_no {js : List Int} {names : Int} {r : List D} (h : r.length ≠ 2) : callT js names r = false := by
  match r, h with
  | [], _ | [_], _ | _ :: _ :: _ :: _, _ => rfl
  | [_, _], h => exact absurd rfl h
theorem s_is_call {k : Nat} {names : Int} {js : List Int} {x : D} {r : List D} (hd : Wz G (k + 1) (.tup (x :: r))) (h : ∀ t, ok (.bl (callT js names r)) (G ++ t)) : Post (callN prg (n + 5) 63 [hdsD js, .int names, .tup (x :: r)]) G ok ex := by
  rw [p_call (fn := f_is_call) rfl rfl]
  unfold f_is_call hdsD
  walk_at "oc stt"
  have h0 := h []
  rw [List.append_nil] at h0
  walk_at "oc hd"
  refine p_neI.mpr ?_
  by_cases hl : r.length = 2
  · rw [len3' hl]
    obtain ⟨a, b, rfl⟩ := two_of hl
    have ha := hd.mem a (by simp)
    have hbz := hd.mem b (by simp)
    rw [callT_two] at h h0
    simp only [Bool.not_true]
    walk_at "oc hd"
    refine s_is_below hb rfl ha.kn ?_
    rw [List.length_map]
    cases hb1 : belowB js.length a with
    | false =>
      simp only [hb1, Bool.false_and] at h0
      simp only [Bool.not_false]
      walk_at "oc hd"; exact h0
    | true =>
      simp only [hb1, Bool.true_and] at h h0
      obtain ⟨i, rfl, e⟩ := atJ_ok hb1
      simp only [Bool.not_true]
      walk_at "oc hd"
      rw [e]
      walk_at "oc hd"
      refine s_is_tuple hb hbz.kn ?_
      cases hb2 : tupB (atJ js (.int i)) b with
      | false =>
        simp only [hb2, Bool.false_and] at h0
        simp only [Bool.not_false]
        walk_at "oc hd"; exact h0
      | true =>
        simp only [hb2, Bool.true_and] at h h0
        cases b with
        | tup ts =>
          simp only [tAll] at h h0
          simp only [Bool.not_true]
          walk_at "oc hd"
          obtain ⟨j, rfl⟩ := hbz.pos
          refine comp_all (f := fun y => .bl (termB names y)) hbz.len (fun y hm t ok' hok => ?_) fun t ht => ?_
          · refine p_turn0.mpr ?_
            dsimp only [wipeD, List.map_cons, List.map_nil, assignT, List.set_cons_zero, List.set_cons_succ]
            walk_at "oc hd"
            refine s_is_term (hbz.mem y hm).app.rz ?_
            have := hok []
            rwa [List.append_nil] at this
          · walk_at "oc hd"
            refine (p_getL_loc ht).mpr ?_
            rw [bls_map]
            dsimp only
            rw [all_id]
            exact h t
        | _ => cases hb2
  · rw [len3 hl]
    rw [callT_no hl] at h0
    simp only [Bool.not_false]
    walk_at "oc hd"
    exact h0
def bodyB (js : List Int) : Nat → Int → D → Bool
  | 0, _, _ => false
  | k + 1, names, .tup (x :: r) => isS x &&
    (if strIs "call" x then callT js names r
    else if strIs "both" x || strIs "either" x then fL (bodyB js k names) r
    else if strIs "some" x || strIs "all" x then f1 (bodyB js k (names + 1)) r
    else formB (k + 1) names (.tup (x :: r)))
  | _ + 1, _, _ => false
def SLb : ISs := .cons (.ifs (.bool false (.cons (.cmp .ne (.bi .len (.cons (.v 2) .nil)) (.k (.int 2))) (.cons (.not (.call 3 (.cons (.k .non) (.cons (.idx (.v 2) (.k (.int 1))) .nil)) [] .nil)) (.cons (.cmp .eq (.idx (.v 2) (.k (.int 1))) (.tup .nil)) .nil))))
    (.cons (.ret (.k (.bl false)))
    .nil)
    .nil)
    (.cons (.ret (.bi .all (.cons (.comp [("one", 4)] (.call 64 (.cons (.v 0) (.cons (.v 1) (.cons (.v 4) .nil))) [] .nil) (.nm 4) (.sq (.idx (.v 2) (.k (.int 1)))) .none) .nil)))
    .nil)
theorem brLb {k m : Nat} {names : Int} {js : List Int} {x w : D} {r : List D} {o : Option D} {g : D → Bool} {okF : Fl → GH → Prop} (hk : k ≤ 60) (hd : Wz G (k + 1) (.tup (x :: r)))
    (hc : ∀ y (G' : GH), Wz G' (k - 1) y → ∀ {ok : D → GH → Prop} {ex : Str → Option D → GH → Prop}, (∀ t, ok (.bl (g y)) (G' ++ t)) → Post (callN prg (m + 1) 64 [hdsD js, .int names, y]) G' ok ex) (h : ∀ t, okF (.rt (.bl (fL g r))) (G ++ t)) :
    Post (denSs (callN prg (m + 1)) SLb [some (hdsD js), some (.int names), some (.tup (x :: r)), some w, o]) G okF ex := by
  unfold SLb
  have h0 := h []
  rw [List.append_nil] at h0
  walk_at "oc hd"
  refine p_neI.mpr ?_
  by_cases hl : r.length = 1
  · rw [len2' hl]
    obtain ⟨y, rfl⟩ := one_of hl
    have hy := hd.mem y (by simp)
    simp only [Bool.not_true]
    walk_at "oc hd"
    refine s_tupN hy.kn ?_
    cases y with
    | tup ys =>
      simp only [isT, Bool.not_true]
      walk_at "oc hd"
      refine ⟨Nat.zero_le _, ?_⟩
      refine p_eqNil hy.rz (by omega) ?_
      cases hys : ys.isEmpty with
      | true =>
        simp only [fL, hys, Bool.not_true, Bool.false_and] at h0
        walk_at "oc hd"; exact h0
      | false =>
        simp only [fL, hys, Bool.not_false, Bool.true_and] at h
        walk_at "oc hd"
        refine comp_all (f := fun y => .bl (g y)) hy.len (fun y hm t ok' hok => ?_) fun t ht => ?_
        · refine p_turn0.mpr ?_
          dsimp only [wipeD, List.map_cons, List.map_nil, assignT, List.set_cons_zero, List.set_cons_succ]
          walk_at "oc hd"
          obtain ⟨j, rfl⟩ := hy.pos
          exact hc y _ (hy.mem y hm).app hok
        · walk_at "oc hd"
          refine (p_getL_loc ht).mpr ?_
          rw [bls_map]
          dsimp only
          rw [all_id]
          exact h t
    | _ =>
      simp only [fL] at h0
      simp only [isT, Bool.not_false]
      walk_at "oc hd"; exact h0
  · rw [len2 hl]
    rw [fL_no hl] at h0
    simp only [Bool.not_false]
    walk_at "oc hd"
    exact h0
theorem isS_str {w : Str} {x : D} (h : strIs w x = true) : isS x = true := by cases x <;> first | rfl | cases h
theorem s_is_body {js : List Int} : ∀ (k : Nat) {n : Nat} {G : GH} {ok : D → GH → Prop} {ex : Str → Option D → GH → Prop} {names : Int} {d : D}, k ≤ 60 → Wz G k d → (∀ t, ok (.bl (bodyB js k names d)) (G ++ t)) →
    Post (callN prg (n + k + 6) 64 [hdsD js, .int names, d]) G ok ex
  | 0, n, G, ok, ex, names, d, hk, hd, h => by
    obtain ⟨p, e⟩ := hd.rz
    cases d <;> cases e
  | k + 1, n, G, ok, ex, names, d, hk, hd, h => by
    rw [show n + (k + 1) + 6 = (n + k + 6) + 1 by omega, p_call (fn := f_is_body) rfl rfl]
    unfold f_is_body
    walk_at "oc stt"
    walk_at "oc hd"
    refine s_tupN (m := n + k + 5) hd.kn ?_
    have h0 := h []
    rw [List.append_nil] at h0
    cases d with
    | tup xs =>
      simp only [isT, Bool.not_true]
      walk_at "oc hd"
      refine ⟨Nat.zero_le _, ?_⟩
      refine p_eqNil hd.rz (by omega) ?_
      cases xs with
      | nil => simp only [List.isEmpty_nil]; walk_at "oc hd"; exact h0
      | cons x r =>
        simp only [List.isEmpty_cons]
        walk_at "oc hd"
        have hx : Wz G k x := hd.mem x List.mem_cons_self
        have kx : k ≤ 64 := by omega
        rw [isTy_str hx.kn]
        have key : bodyB js (k + 1) names (.tup (x :: r)) = (isS x &&
          (if strIs "call" x then callT js names r
          else if strIs "both" x || strIs "either" x then fL (bodyB js k names) r
          else if strIs "some" x || strIs "all" x then f1 (bodyB js k (names + 1)) r
          else formB (k + 1) names (.tup (x :: r)))) := rfl
        rw [key] at h h0
        cases ws : isS x with
        | false =>
          simp only [ws, Bool.false_and] at h0
          simp only [Bool.not_false]
          walk_at "oc hd"; exact h0
        | true =>
          simp only [ws, Bool.true_and] at h h0
          simp only [Bool.not_true]
          walk_at "oc hd"
          refine p_eqS hx.rz kx ?_
          have rc : ∀ y (G' : GH) (nm : Int), Wz G' k y → ∀ {ok : D → GH → Prop} {ex : Str → Option D → GH → Prop}, (∀ t, ok (.bl (bodyB js k nm y)) (G' ++ t)) → Post (callN prg (n + k + 6) 64 [hdsD js, .int nm, y]) G' ok ex :=
            fun y G' nm hy ok ex hok => s_is_body k (by omega) hy hok
          cases w1 : strIs "call" x with
          | true =>
            simp only [w1, if_true] at h
            walk_at "oc hd"
            exact s_is_call (n := n + k + 1) hd h
          | false =>
            simp only [w1, Bool.false_eq_true, if_false] at h h0
            walk_at "oc hd"
            refine p_inTwo hx.rz kx ?_
            cases w2 : (strIs "both" x || strIs "either" x) with
            | true =>
              simp only [w2, if_true] at h
              walk_at "oc hdc"
              exact brLb (m := n + k + 5) (by omega) hd (fun y G' hy ok ex hok => rc y G' names (hy.up (by omega)) hok) h
            | false =>
              simp only [w2, Bool.false_eq_true, if_false] at h h0
              walk_at "oc hdc"
              walk_at "oc hd"
              refine p_inTwo hx.rz kx ?_
              cases w3 : (strIs "some" x || strIs "all" x) with
              | true =>
                simp only [w3, if_true] at h
                walk_at "oc hd"
                by_cases hl : r.length = 1
                · rw [len2' hl]
                  obtain ⟨y, rfl⟩ := one_of hl
                  walk_at "oc hd"
                  exact rc y G (names + 1) (hd.mem y (by simp)) h
                · rw [len2 hl]
                  have h0 := h []
                  rw [List.append_nil, f1_no hl] at h0
                  walk_at "oc hd"
                  exact h0
              | false =>
                simp only [w3, Bool.false_eq_true, if_false] at h
                walk_at "oc hd"
                exact s_form (k + 1) (n := n) (by omega) hd h
    | _ => simp only [isT, Bool.not_false]; walk_at "oc hd"; exact h0
end
end OC

namespace OC
open PySem PySem.Spec PyProof.Rows L2
section
variable {n : Nat} {G : GH} {ok : D → GH → Prop} {ex : Str → Option D → GH → Prop}
def bodyD (js : List Int) (b c : D) : Bool := match b with
  | .int nm => bodyB js 20 nm c
  | _ => false
def ruleB (js : List Int) : D → Bool
  | .tup [a, b, c] => belowB js.length a && (fromB (atJ js a) b && bodyD js b c)
  | _ => false
theorem three_of {r : List D} (h : ((r.length : Int) == 3) = true) : ∃ x y z, r = [x, y, z] := by
  match r, h with
  | [x, y, z], _ => exact ⟨x, y, z, rfl⟩
  | [], h | [_], h | [_, _], h => simp at h
  | _ :: _ :: _ :: _ :: _, h => simp at h; omega
theorem ruleB_no {r : List D} (h : ((r.length : Int) == 3) = false) {js : List Int} : ruleB js (.tup r) = false := by
  match r, h with
  | [_, _, _], h => simp at h
  | [], _ | [_], _ | [_, _], _ | _ :: _ :: _ :: _ :: _, _ => rfl
theorem s_is_rule {js : List Int} {d : D} (hd : Wz G 21 d) (h : ∀ t, ok (.bl (ruleB js d)) (G ++ t)) : Post (callN prg (n + 27) 65 [hdsD js, d]) G ok ex := by
  rw [p_call (fn := f_is_rule) rfl rfl]
  unfold f_is_rule
  walk_at "oc stt"
  have h0 := h []
  rw [List.append_nil] at h0
  walk_at "oc hd"
  refine s_is_tuple hb hd.kn ?_
  cases d with
  | tup r =>
    cases hl : ((r.length : Int) == 3) with
    | false =>
      simp only [tupB, hl, Bool.not_false]
      rw [ruleB_no hl] at h0
      walk_at "oc hd"; exact h0
    | true =>
      obtain ⟨a, b, c, rfl⟩ := three_of hl
      have ha := hd.mem a (by simp)
      have hbz := hd.mem b (by simp)
      have hcz := hd.mem c (by simp)
      simp only [tupB, hl, Bool.not_true]
      unfold hdsD
      walk_at "oc hd"
      refine s_is_below hb rfl ha.kn ?_
      rw [List.length_map]
      simp only [ruleB] at h h0
      cases hb1 : belowB js.length a with
      | false =>
        simp only [hb1, Bool.false_and] at h0
        simp only [Bool.not_false]
        walk_at "oc hd"; exact h0
      | true =>
        simp only [hb1, Bool.true_and] at h h0
        obtain ⟨i, rfl, e⟩ := atJ_ok hb1
        simp only [Bool.not_true]
        walk_at "oc hd"
        rw [e]
        walk_at "oc hd"
        refine s_is_from hb hbz.kn ?_
        cases hb2 : fromB (atJ js (.int i)) b with
        | false =>
          simp only [hb2, Bool.false_and] at h0
          simp only [Bool.not_false]
          walk_at "oc hd"; exact h0
        | true =>
          simp only [hb2, Bool.true_and] at h h0
          cases b with
          | int nm =>
            simp only [bodyD] at h
            simp only [Bool.not_true]
            walk_at "oc hd"
            exact s_is_body 20 (n := n) (by decide) hcz h
          | _ => cases hb2
  | _ =>
    simp only [tupB, Bool.not_false]
    walk_at "oc hd"; exact h0
def jsOf (hs : List D) : List Int := hs.map fun d => match d with | .int i => i | _ => 0
theorem jsOf_ok : ∀ {hs : List D}, hs.all (fromB 0) = true → hs = (jsOf hs).map D.int
  | [], _ => rfl
  | x :: hs, h => by
    simp only [List.all_cons, Bool.and_eq_true] at h
    have := jsOf_ok h.2
    cases x with
    | int i => simp only [jsOf, List.map_cons] at this ⊢; rw [← this]
    | _ => cases h.1
theorem jsOf_map {js : List Int} : jsOf (js.map D.int) = js := by
  unfold jsOf
  rw [List.map_map]
  exact (List.map_congr_left fun _ _ => rfl).trans (List.map_id js)
def rulesF (js : List Int) (r : D) : D := match r with
  | .tup rs => (match rs.findIdx? (fun x => !ruleB js x) with | some i => .tup [.int 1, .int (i : Nat)] | none => .non)
  | _ => .tup [.int 1]
def headsF (h r : D) : D := match h with
  | .tup hs => if hs.all (fromB 0) = true then rulesF (jsOf hs) r else .tup [.int 0]
  | _ => .tup [.int 0]
/-- where a defining is wrong -/
def faultD : D → D
  | .tup [h, r] => headsF h r
  | _ => .tup []
theorem pair_of {r : List D} (h : ((r.length : Int) == 2) = true) : ∃ x y, r = [x, y] := by
  match r, h with
  | [x, y], _ => exact ⟨x, y, rfl⟩
  | [], h | [_], h => simp at h
  | _ :: _ :: _ :: _, h => simp at h; omega
theorem faultD_no {r : List D} (h : ((r.length : Int) == 2) = false) : faultD (.tup r) = .tup [] := by
  match r, h with
  | [_, _], h => simp at h
  | [], _ | [_], _ | _ :: _ :: _ :: _, _ => rfl
theorem enm_at {rs : List D} {i : Nat} {x : D} (h : (enmD 0 rs)[i]? = some x) : ∃ y, rs[i]? = some y ∧ x = .tup [.int (i : Nat), y] := by
  rw [enm_get] at h
  obtain ⟨y, h1, h2⟩ := Option.map_eq_some_iff.mp h
  refine ⟨y, h1, ?_⟩
  rw [← h2]
  congr 2
  simp
theorem s_fault {d : D} (hd : Wz G 23 d) (h : ∀ t, ok (faultD d) (G ++ t)) : Post (callN prg (n + 28) 66 [d]) G ok ex := by
  rw [p_call (fn := f_defining_fault) rfl rfl]
  unfold f_defining_fault
  walk_at "oc stt"
  have h0 := h []
  rw [List.append_nil] at h0
  walk_at "oc hd"
  refine s_is_tuple hb hd.kn ?_
  cases d with
  | tup r =>
    cases hl : ((r.length : Int) == 2) with
    | false =>
      simp only [tupB, hl, Bool.not_false]
      rw [faultD_no hl] at h0
      walk_at "oc hd"
      refine ⟨Nat.zero_le _, ?_⟩
      exact h0
    | true =>
      obtain ⟨a, b, rfl⟩ := pair_of hl
      have ha := hd.mem a (by simp)
      have hbz := hd.mem b (by simp)
      simp only [tupB, hl, Bool.not_true]
      walk_at "oc hd"
      refine s_tupN (m := n + 26) ha.kn ?_
      simp only [faultD] at h h0
      cases a with
      | tup hs =>
        simp only [isT, Bool.not_true]
        simp only [headsF] at h h0
        walk_at "oc hd"
        refine comp_all (f := fun y => .bl (fromB 0 y)) ha.len (fun y hm t ok' hok => ?_) fun t ht => ?_
        · refine p_turn0.mpr ?_
          dsimp only [wipeD, List.map_cons, List.map_nil, assignT, List.set_cons_zero, List.set_cons_succ]
          walk_at "oc hd"
          refine s_is_from hb (ha.mem y hm).app.kn ?_
          have := hok []
          rwa [List.append_nil] at this
        · walk_at "oc hd"
          refine (p_getL_loc ht).mpr ?_
          rw [bls_map]
          dsimp only
          rw [all_id]
          cases hall : hs.all (fromB 0) with
          | false =>
            rw [hall] at h
            simp only [Bool.not_false]
            walk_at "oc hd"
            refine ⟨sz (by decide), ?_⟩
            have := h t
            simpa using this
          | true =>
            rw [hall, if_pos rfl] at h
            have ejs := jsOf_ok hall
            generalize hjs : jsOf hs = js at h ejs
            subst ejs
            simp only [Bool.not_true]
            walk_at "oc hd"
            rw [isTy_tup hbz.app.kn]
            cases b with
            | tup rs =>
              simp only [isT, Bool.not_true]
              simp only [rulesF] at h
              walk_at "oc hd"
              refine loop_go (fun i σ G' => (∃ u v w, σ = [some (.tup [.tup (js.map D.int), .tup rs]), u, v, w]) ∧ (∃ t', G' = G ++ t ++ t') ∧ ∀ j (x : D), j < i → rs[j]? = some x → ruleB js x = true) ⟨⟨_, _, _, rfl⟩, ⟨[], by simp⟩, fun j x hj => absurd hj (Nat.not_lt_zero _)⟩ ?_ ?_
              · rintro i x σ G' hi ⟨⟨u, v, w, rfl⟩, ⟨t', rfl⟩, hI⟩
                refine ⟨rfl, ?_⟩
                obtain ⟨y, hy, rfl⟩ := enm_at hi
                dsimp only [assignT, assignT.setAll, List.length_cons, List.length_nil, List.set_cons_zero, List.set_cons_succ]
                rw [if_pos rfl]
                walk_at "oc hd"
                have hym : y ∈ rs := List.mem_of_getElem? hy
                refine s_is_rule (js := js) (hbz.mem y hym).app.app fun t2 => ?_
                cases hr : ruleB js y with
                | false =>
                  simp only [Bool.not_false]
                  walk_at "oc hd"
                  refine ⟨sz (by decide), ?_⟩
                  have hf : rs.findIdx? (fun x => !ruleB js x) = some i := by
                    rw [List.findIdx?_eq_some_iff_getElem]
                    obtain ⟨hlt, he⟩ := List.getElem?_eq_some_iff.mp hy
                    refine ⟨hlt, by rw [he, hr]; rfl, fun j hj => ?_⟩
                    rw [hI j rs[j] hj (by simp)]; decide
                  rw [hf] at h
                  have := h (t ++ (t' ++ t2))
                  simpa only [List.append_assoc] using this
                | true =>
                  simp only [Bool.not_true]
                  walk_at "oc hd"
                  refine ⟨⟨_, _, _, rfl⟩, ⟨t' ++ t2, by simp only [List.append_assoc]⟩, fun j x hj hx => ?_⟩
                  by_cases hji : j = i
                  · subst hji
                    rw [hy] at hx; cases hx; exact hr
                  · exact hI j x (by omega) hx
              · rintro σ G' ⟨⟨u, v, w, rfl⟩, ⟨t', rfl⟩, hI⟩
                refine ⟨rfl, ?_⟩
                walk_at "oc hd"
                have hf : rs.findIdx? (fun x => !ruleB js x) = none := by
                  rw [List.findIdx?_eq_none_iff]
                  intro x hx
                  obtain ⟨j, hj⟩ := List.getElem?_of_mem hx
                  have hjl := (List.getElem?_eq_some_iff.mp hj).1
                  rw [hI j x (by rw [enm_len]; exact hjl) hj]; rfl
                rw [hf] at h
                have := h (t ++ t')
                simpa only [List.append_assoc] using this
            | _ =>
              simp only [isT, Bool.not_false]
              simp only [rulesF] at h
              walk_at "oc hd"
              refine ⟨sz (by decide), ?_⟩
              exact h t
      | _ =>
        simp only [headsF] at h0
        simp only [isT, Bool.not_false]
        walk_at "oc hd"
        refine ⟨sz (by decide), ?_⟩
        exact h0
  | _ =>
    simp only [tupB, Bool.not_false]
    walk_at "oc hd"
    refine ⟨Nat.zero_le _, ?_⟩
    exact h0
theorem s_is_def {d : D} (hd : Wz G 23 d) (h : ∀ t, ok (.bl (isNon (faultD d))) (G ++ t)) : Post (callN prg (n + 29) 67 [d]) G ok ex := by
  rw [p_call (fn := f_is_defining) rfl rfl]
  unfold f_is_defining
  walk_at "oc stt"
  walk_at "oc hd"
  refine s_fault hd fun t => ?_
  walk_at "oc hd"
  refine p_isN.mpr ?_
  exact h t
/-- the look that refuses -/
theorem s_check {d : D} {w k : Nat} (hd : Wz G 23 d) (hg : Gd w k (faultD d)) (hw : w ≤ 300) (hk : k < 30) (hn : ∀ s, faultD d ≠ .str s) (h : ∀ t, if isNon (faultD d) = true then ok .non (G ++ t) else ex "InvalidDefining" (some (.tup [.str "part", faultD d])) (G ++ t)) :
    Post (callN prg (n + 29) 68 [d]) G ok ex := by
  rw [p_call (fn := f_check_defining) rfl rfl]
  unfold f_check_defining
  walk_at "oc stt"
  walk_at "oc hd"
  refine s_fault hd fun t => ?_
  walk_at "oc hd"
  refine p_isnN.mpr ?_
  have h := h t
  cases hi : isNon (faultD d) with
  | true =>
    rw [hi, if_pos rfl] at h
    simp only [Bool.not_true]
    walk_at "oc hd"; exact h
  | false =>
    rw [hi, if_neg (by decide)] at h
    simp only [Bool.not_false]
    walk_at "oc hd"
    refine p_raiseF ?_
    walk_at "oc hd"
    exact ⟨hn, ⟨_, txt_gd hg hw hk (Nat.le_refl _)⟩, h⟩
end
end OC

namespace OC
open PySem PySem.Spec PyProof.Rows L2
section
variable {n : Nat} {G : GH} {ok : D → GH → Prop} {ex : Str → Option D → GH → Prop}
/-- a value that is refused -/
structure Bad (G : GH) (d : D) : Prop where
  wz : Wz G 23 d
  no : isNon (faultD d) = false
  gd : Gd 10 3 (faultD d)
  st : ∀ s, faultD d ≠ .str s
theorem Bad.chk {d : D} (hd : Bad G d) (h : ∀ t, ex "InvalidDefining" (some (.tup [.str "part", faultD d])) (G ++ t)) : Post (callN prg (n + 29) 68 [d]) G ok ex :=
  s_check hd.wz hd.gd (by decide) (by decide) hd.st fun t => by rw [hd.no, if_neg (by decide)]; exact h t
theorem s_least {d : D} (hd : Bad G d) (h : ∀ t, ex "InvalidDefining" (some (.tup [.str "part", faultD d])) (G ++ t)) : Post (callN prg (n + 30) 75 [d]) G ok ex := by
  rw [p_call (fn := f_least_tables) rfl rfl]
  unfold f_least_tables
  walk_at "oc stt"
  walk_at "oc hd"
  exact hd.chk h
theorem s_rounds {d : D} (hd : Bad G d) (h : ∀ t, ex "InvalidDefining" (some (.tup [.str "part", faultD d])) (G ++ t)) : Post (callN prg (n + 30) 76 [d]) G ok ex := by
  rw [p_call (fn := f_rounds) rfl rfl]
  unfold f_rounds
  walk_at "oc stt"
  walk_at "oc hd"
  exact hd.chk h
theorem s_satisfy {d e : D} (hd : Bad G d) (h : ∀ t, ex "InvalidDefining" (some (.tup [.str "part", faultD d])) (G ++ t)) : Post (callN prg (n + 30) 77 [d, e]) G ok ex := by
  rw [p_call (fn := f_satisfy) rfl rfl]
  unfold f_satisfy
  walk_at "oc stt"
  walk_at "oc hd"
  exact hd.chk h
theorem s_caught {w : Int} {d : D} (hw : 0 ≤ w ∧ w < 3) (hd : Bad G d) (h : ∀ t, ok (faultD d) (G ++ t)) : Post (callN prg (n + 31) 82 [.int w, d]) G ok ex := by
  rw [p_call (fn := f__law_caught) rfl rfl]
  unfold f__law_caught
  walk_at "oc stt"
  walk_at "oc hd"
  refine p_try.mpr ?_
  have fin : ∀ t, if xcs.contains "InvalidDefining" = true then Post (denH (callN prg (n + 30)) (.as "InvalidDefining" 3 "part" 2 .nil) "InvalidDefining" (some (.tup [.str "part", faultD d])) [some (.int w), some d, some (.str "let"), none]) (G ++ t)
      (fun fl G1 => match fl with
        | .nx σ1 => Post (denSs (callN prg (n + 30)) (.cons (.ret (.v 2)) .nil) σ1) G1 (fun fl G1 => match fl with | .nx _ => ok .non G1 | .rt d => ok d G1 | .xn c f _ => ex c f G1 | _ => False) noex
        | r => match r with | .nx _ => ok .non G1 | .rt d => ok d G1 | .xn c f _ => ex c f G1 | _ => False) noex else False := fun t => by
    rw [if_pos (by decide +kernel)]
    refine p_asH (by simp) ?_
    dsimp only [List.set_cons_zero, List.set_cons_succ]
    walk_at "oc hd"
    exact h t
  walk_at "oc hd"
  by_cases w0 : w = 0
  · subst w0
    rw [show ((0 : Int) == 0) = true from rfl]
    walk_at "oc hd"
    exact s_least hd fin
  · rw [beq_eq_false_iff_ne.mpr w0]
    walk_at "oc hd"
    by_cases w1 : w = 1
    · subst w1
      rw [show ((1 : Int) == 1) = true from rfl]
      walk_at "oc hd"
      exact s_rounds hd fin
    · rw [beq_eq_false_iff_ne.mpr w1]
      walk_at "oc hd"
      refine ⟨Nat.zero_le _, ?_⟩
      exact s_satisfy hd fin
end
end OC

namespace OC
open PySem PySem.Spec PyProof.Rows L2
/-! ### what is drawn -/
section
variable {k : Nat} {nm : Int} {w : Str}
theorem fb_yes : formB (k + 1) nm (.tup [.str "yes"]) = true := rfl
theorem fb_cmp {t u : D} (hw : w = "less" ∨ w = "same") (ht : termB nm t = true) (hu : termB nm u = true) : formB (k + 1) nm (.tup [.str w, t, u]) = true := by
  have e : (strIs "less" (.str w) || strIs "same" (.str w)) = true := by rcases hw with rfl | rfl <;> rfl
  unfold formB
  rw [if_pos e]
  simp only [fT2, ht, hu, Bool.and_self]
theorem fb_list {ys : List D} (hw : w = "both" ∨ w = "either") (hn : 0 < ys.length) (hy : ∀ y ∈ ys, formB k nm y = true) : formB (k + 1) nm (.tup [.str w, .tup ys]) = true := by
  have e1 : (strIs "less" (.str w) || strIs "same" (.str w)) = false := by rcases hw with rfl | rfl <;> rfl
  have e : (strIs "both" (.str w) || strIs "either" (.str w)) = true := by rcases hw with rfl | rfl <;> rfl
  unfold formB
  rw [if_neg (by rw [e1]; decide), if_pos e]
  simp only [fL, Bool.and_eq_true, List.all_eq_true]
  exact ⟨by cases ys with
    | nil => simp at hn
    | cons a b => rfl, hy⟩
theorem fb_not {f : D} (hf : formB k nm f = true) : formB (k + 1) nm (.tup [.str "not", f]) = true := by
  unfold formB
  rw [if_neg (by decide), if_neg (by decide), if_pos (by decide)]
  exact hf
theorem fb_quant {f : D} (hw : w = "some" ∨ w = "all") (hf : formB k (nm + 1) f = true) : formB (k + 1) nm (.tup [.str w, f]) = true := by
  have e1 : (strIs "less" (.str w) || strIs "same" (.str w)) = false := by rcases hw with rfl | rfl <;> rfl
  have e2 : (strIs "both" (.str w) || strIs "either" (.str w)) = false := by rcases hw with rfl | rfl <;> rfl
  have e3 : strIs "not" (.str w) = false := by rcases hw with rfl | rfl <;> rfl
  have e : (strIs "some" (.str w) || strIs "all" (.str w)) = true := by rcases hw with rfl | rfl <;> rfl
  unfold formB
  rw [if_neg (by rw [e1]; decide), if_neg (by rw [e2]; decide), if_neg (by rw [e3]; decide), if_pos e]
  exact hf
theorem fL_mono {f g : D → Bool} (h : ∀ d, f d = true → g d = true) : ∀ r, fL f r = true → fL g r = true := fun r hr => by
  unfold fL at hr ⊢
  split at hr
  · simp only [Bool.and_eq_true, List.all_eq_true] at hr ⊢
    exact ⟨hr.1, fun y hy => h y (hr.2 y hy)⟩
  · cases hr
theorem f1_mono {f g : D → Bool} (h : ∀ d, f d = true → g d = true) : ∀ r, f1 f r = true → f1 g r = true := fun r hr => by
  unfold f1 at hr ⊢
  split at hr
  · exact h _ hr
  · cases hr
theorem fb_mono : ∀ (k : Nat) {nm : Int} {d : D}, formB k nm d = true → formB (k + 1) nm d = true
  | 0, nm, d, h => by simp [formB] at h
  | k + 1, nm, d, h => by
    cases d with
    | tup xs =>
      cases xs with
      | nil => simp [formB] at h
      | cons x r =>
        unfold formB at h ⊢
        split
        · rename_i hh; rw [if_pos hh] at h; exact h
        · rename_i hh; rw [if_neg hh] at h
          split
          · rename_i h2; rw [if_pos h2] at h; exact fL_mono (fun d hd => fb_mono k hd) r h
          · rename_i h2; rw [if_neg h2] at h
            split
            · rename_i h3; rw [if_pos h3] at h; exact f1_mono (fun d hd => fb_mono k hd) r h
            · rename_i h3; rw [if_neg h3] at h
              split
              · rename_i h4; rw [if_pos h4] at h; exact f1_mono (fun d hd => fb_mono k hd) r h
              · rename_i h4; rw [if_neg h4] at h; exact h
    | _ => simp [formB] at h
theorem fb_up {j : Nat} {d : D} (h : formB k nm d = true) (hj : k ≤ j) : formB j nm d = true := by
  induction hj with
  | refl => exact h
  | step _ ih => exact fb_mono _ ih
end
section
variable {n : Nat} {G : GH} {ok : D → GH → Prop} {ex : Str → Option D → GH → Prop}
theorem s_lterm {s : Nat} {nm : Int} {ds : List D} (hs : SrcAt s G) (h0 : 0 ≤ nm) (h1 : nm ≤ 20) (hz : AllZ ds) (hl : ds.length ≤ 5) (hp : 0 < nm + ds.length) (h : ∀ d G', termB nm d = true → Gd 3 1 d → SrcAt s G' → Kp s G G' → ok d G') :
    Post (callN prg (n + 2) 78 [.loc s, .int nm, .tup ds]) G ok ex := by
  rw [p_call (fn := f__law_term) rfl rfl]
  unfold f__law_term
  walk_at "oc stt"
  walk_at "oc hd"
  refine s_draw hb hs (by omega) (by omega) fun f G' f0 f1 hs' kp => ?_
  walk_at "oc hd"
  by_cases hf : f < nm
  · rw [decide_eq_true hf]
    walk_at "oc hd"
    refine h _ _ ?_ ((Gd.int (log_small (by omega))).up (by decide) (by decide)) hs' kp
    simp [termB, belowB, f0, hf]
  · rw [decide_eq_false hf]
    walk_at "oc hd"
    obtain ⟨d, hm, e⟩ := atI_lt (xs := ds) (i := f - nm) (by omega) (by omega)
    rw [e]
    obtain ⟨a, b, rfl, z⟩ := hz d hm
    refine h _ _ ?_ z.gd hs' kp
    simp [termB, z.nm.num]
/-- a comprehension that draws -/
theorem comp_draw {s m : Nat} {turn : D → M (Option D)} {Q : D → Prop} {okk : Unit → GH → Prop} (hs : SrcAt s G) (hm : m ≤ 100)
    (hturn : 0 < m → ∀ (x : D) (G' : GH), SrcAt s G' → Kp s G G' → ∀ (ok' : Option D → GH → Prop), (∀ d G'', Q d → SrcAt s G'' → Kp s G' G'' → ok' (some d) G'') → Post (turn x) G' ok' noex)
    (h : ∀ acc G', acc.length = m → (∀ d ∈ acc, Q d) → SrcAt s G' → Kp s G G' → G'[G.length]? = some (.lst acc) → okk () G') : Post (compG [] G.length turn (rngD 0 m)) (G ++ [.lst []]) okk ex := by
  have hne : G.length ≠ s := by have := hs.lt; omega
  refine comp_go (fun i acc G' => SrcAt s G' ∧ Kp s G G' ∧ (∀ d ∈ acc, Q d) ∧ acc.length = i) ⟨hs.app, Kp.app, by simp, rfl⟩ get1 ?_ ?_
  · rintro i x acc G' hi hl ⟨i1, i2, i3, i4⟩
    have hlt := (List.getElem?_eq_some_iff.mp hi).1
    rw [rng_len] at hlt
    refine ⟨rfl, hturn (by omega) x G' i1 i2 _ fun d G'' hq hs2 k2 => ?_⟩
    refine ⟨k2.get hl hne, by rw [sizeLine_eq]; omega, hs2.set hne, (i2.trans k2).setNew (Nat.le_refl _), fun y hy => ?_, by simp; omega⟩
    rcases List.mem_append.mp hy with hy | hy
    · exact i3 y hy
    · rw [List.mem_singleton.mp hy]; exact hq
  · rintro acc G' hl ⟨i1, i2, i3, i4⟩
    rw [rng_len] at i4
    exact ⟨rfl, h acc G' i4 i3 i1 i2 hl⟩
theorem gd_str {w : Str} (h : lsh (.str w) = true) : Gd 1 0 (.str w) := ⟨rfl, Nat.le_refl _, Nat.le_refl _, h⟩
def fw : Nat → Nat
  | 0 => 8
  | m + 1 => 2 * fw m + 5
theorem fw_ge : ∀ m, 8 ≤ fw m
  | 0 => by decide
  | m + 1 => by have := fw_ge m; simp only [fw]; omega
def RSf : ISs := (.cons (.ifs (.cmp .eq (.v 4) (.k (.int 5)))
    (.cons (.ret (.tup (.cons (.k (.str ("not" : Str))) (.cons (.call 79 (.cons (.v 0) (.cons (.v 1) (.cons (.v 2) (.cons (.op .sub (.v 3) (.k (.int 1))) .nil)))) [] .nil) .nil))))
    .nil)
    .nil)
    (.cons (.ifs (.cmp .eq (.v 4) (.k (.int 6)))
    (.cons (.set (.nm 6) (.comp [("turn", 7)] (.call 79 (.cons (.v 0) (.cons (.op .add (.v 1) (.k (.int 1))) (.cons (.v 2) (.cons (.k (.int 0)) .nil)))) [] .nil) (.nm 7) (.rng1 (.op .add (.k (.int 1)) (.call 17 (.cons (.v 0) (.cons (.k (.int 2)) .nil)) [] .nil))) .none))
    (.cons (.ret (.tup (.cons (.call 18 (.cons (.v 0) (.cons (.lst (.cons (.k (.str ("some" : Str))) (.cons (.k (.str ("all" : Str))) .nil))) .nil)) [] .nil) (.cons (.ife (.cmp .gt (.bi .len (.cons (.v 6) .nil)) (.k (.int 1))) (.tup (.cons (.call 18 (.cons (.v 0) (.cons (.lst (.cons (.k (.str ("both" : Str))) (.cons (.k (.str ("either" : Str))) .nil))) .nil)) [] .nil) (.cons (.bi .tuple (.cons (.v 6) .nil)) .nil))) (.idx (.v 6) (.k (.int 0)))) .nil))))
    .nil))
    .nil)
    (.cons (.set (.nm 5) (.comp [("turn", 7)] (.call 79 (.cons (.v 0) (.cons (.v 1) (.cons (.v 2) (.cons (.op .sub (.v 3) (.k (.int 1))) .nil)))) [] .nil) (.nm 7) (.rng1 (.op .add (.k (.int 1)) (.call 17 (.cons (.v 0) (.cons (.k (.int 2)) .nil)) [] .nil))) .none))
    (.cons (.ret (.tup (.cons (.ife (.cmp .lt (.v 4) (.k (.int 9))) (.k (.str ("both" : Str))) (.k (.str ("either" : Str)))) (.cons (.bi .tuple (.cons (.v 5) .nil)) .nil))))
    .nil))))
/-- behind the comparisons -/
theorem s_rest {s m : Nat} {ds : List D} {nm sz1 wayI : Int} {okF : Fl → GH → Prop} (hs : SrcAt s G) (h0 : 0 ≤ nm) (h1 : nm + m ≤ 19) (hsz : sz1 - 1 = (m : Nat))
    (rc : ∀ {G : GH} {ok : D → GH → Prop} {ex : Str → Option D → GH → Prop} {nm : Int}, SrcAt s G → 0 ≤ nm → nm + m ≤ 20 →
      (∀ d G', formB (2 * m + 1) nm d = true → Gd (fw m) (3 * m + 2) d → SrcAt s G' → Kp s G G' → ok d G') → Post (callN prg (n + m + 4) 79 [.loc s, .int nm, .tup ds, .int (m : Nat)]) G ok ex)
    (rc0 : ∀ {G : GH} {ok : D → GH → Prop} {ex : Str → Option D → GH → Prop} {nm : Int}, SrcAt s G → 0 ≤ nm → nm ≤ 20 →
      (∀ d G', formB 1 nm d = true → Gd 8 2 d → SrcAt s G' → Kp s G G' → ok d G') → Post (callN prg (n + m + 4) 79 [.loc s, .int nm, .tup ds, .int 0]) G ok ex)
    (h : ∀ d G', formB (2 * m + 3) nm d = true → Gd (2 * fw m + 5) (3 * m + 5) d → SrcAt s G' → Kp s G G' → okF (.rt d) G') :
    Post (denSs (callN prg (n + m + 4)) RSf [some (.loc s), some (.int nm), some (.tup ds), some (.int sz1), some (.int wayI), none, none, none]) G okF noex := by
  unfold RSf
  have f8 := fw_ge m
  walk_at "oc hd"
  by_cases w6 : wayI = 5
  · subst w6
    rw [show ((5 : Int) == 5) = true from rfl]
    walk_at "oc hd"
    rw [hsz]
    refine rc hs h0 (by omega) fun d G' hf hg hs' k' => ?_
    walk_at "oc hd"
    refine ⟨sz (by decide), ?_⟩
    refine h _ _ (fb_up (fb_not hf) (by omega)) ?_ hs' k'
    exact (Gds.cons ((gd_str (by decide +kernel)).up (Nat.le_refl _) (Nat.zero_le _)) (Gds.cons hg Gds.nil)).tup.up (by omega) (by omega)
  · rw [beq_eq_false_iff_ne.mpr w6]
    walk_at "oc hd"
    by_cases w7 : wayI = 6
    · subst w7
      rw [show ((6 : Int) == 6) = true from rfl]
      walk_at "oc hd"
      refine s_draw hb hs (by decide) (by decide) fun f G1 f0 f1 hs1 k1 => ?_
      walk_at "oc hd"
      refine ⟨by constructor <;> omega, ?_⟩
      refine comp_draw (Q := fun d => formB 1 (nm + 1) d = true ∧ Gd 8 2 d) hs1 (by omega) (fun hm0 x G' hs2 k2 ok' hok => ?_) fun acc G2 hlen hq hs2 k2 hacc => ?_
      · refine p_turn0.mpr ?_
        (simp only [List.map_cons, List.map_nil, wipeD]; dsimp only [assignT, List.set_cons_zero, List.set_cons_succ])
        walk_at "oc hd"
        exact rc0 hs2 (by omega) (by omega) fun d G' hf hg hs' k' => hok d G' ⟨hf, hg⟩ hs' k'
      · walk_at "oc hd"
        refine ⟨sz (by decide), ?_⟩
        have n1 := hs2.lt
        refine s_pick hb hs2.app get1 (by omega) (by decide) (by decide) fun w hw G3 hs3 k3 => ?_
        have hw' : ∃ x : Str, w = .str x ∧ (x = "some" ∨ x = "all") := by
          simp only [List.mem_cons, List.not_mem_nil, or_false] at hw
          rcases hw with rfl | rfl
          · exact ⟨_, rfl, .inl rfl⟩
          · exact ⟨_, rfl, .inr rfl⟩
        obtain ⟨x, rfl, hx⟩ := hw'
        have gx : ∀ j, Gd 1 j (.str x) := fun j => (gd_str (by rcases hx with rfl | rfl <;> decide +kernel)).up (Nat.le_refl _) (Nat.zero_le _)
        have hne : G1.length ≠ s := by have := hs1.lt; omega
        have kk : Kp s G G3 := (k1.trans k2).trans (Kp.app.trans k3)
        have h3 : G3[G1.length]? = some (.lst acc) := k3.get (get_app hacc) hne
        walk_at "oc hd"
        refine (p_getS_loc h3).mpr ?_
        walk_at "oc hd"
        by_cases ha : 1 < acc.length
        · rw [decide_eq_true (show (1 : Int) < (acc.length : Int) by omega)]
          walk_at "oc hd"
          refine ⟨sz (by decide), ?_⟩
          have n3 := hs3.lt
          refine s_pick hb hs3.app get1 (by omega) (by decide) (by decide) fun w hw G4 hs4 k4 => ?_
          have hw' : ∃ y : Str, w = .str y ∧ (y = "both" ∨ y = "either") := by
            simp only [List.mem_cons, List.not_mem_nil, or_false] at hw
            rcases hw with rfl | rfl
            · exact ⟨_, rfl, .inl rfl⟩
            · exact ⟨_, rfl, .inr rfl⟩
          obtain ⟨y, rfl, hy⟩ := hw'
          have gy : ∀ j, Gd 1 j (.str y) := fun j => (gd_str (by rcases hy with rfl | rfl <;> decide +kernel)).up (Nat.le_refl _) (Nat.zero_le _)
          walk_at "oc hd"
          refine (p_getS_loc (k4.get (get_app h3) hne)).mpr ?_
          walk_at "oc hd"
          refine ⟨sz (by decide), ?_⟩
          refine ⟨sz (by decide), ?_⟩
          refine h _ _ ?_ ?_ hs4 (kk.trans (Kp.app.trans k4))
          · refine fb_up (k := 3) (fb_quant hx (fb_list hy (by omega) fun d hd => (hq d hd).1)) (by omega)
          · have g1 := (Gds.all fun d hd => (hq d hd).2).tup
            have g2 := (Gds.cons (gy 3) (Gds.cons g1 Gds.nil)).tup
            have g3 := (Gds.cons (gx 4) (Gds.cons g2 Gds.nil)).tup
            refine g3.up ?_ (by omega)
            have : acc.length * 8 ≤ 2 * 8 := Nat.mul_le_mul_right _ (by omega)
            omega
        · rw [decide_eq_false (show ¬ (1 : Int) < (acc.length : Int) by omega)]
          walk_at "oc hd"
          refine (p_getS_loc h3).mpr ?_
          have hone : acc.length = 1 := by omega
          obtain ⟨y, rfl⟩ := one_of hone
          rw [atI0]
          walk_at "oc hd"
          refine ⟨sz (by decide), ?_⟩
          have hy := hq y (by simp)
          refine h _ _ (fb_up (k := 2) (fb_quant hx hy.1) (by omega)) ?_ hs3 kk
          exact (Gds.cons (gx 2) (Gds.cons hy.2 Gds.nil)).tup.up (by omega) (by omega)
    · rw [beq_eq_false_iff_ne.mpr w7]
      walk_at "oc hd"
      refine s_draw hb hs (by decide) (by decide) fun f G1 f0 f1 hs1 k1 => ?_
      walk_at "oc hd"
      refine ⟨by constructor <;> omega, ?_⟩
      refine comp_draw (Q := fun d => formB (2 * m + 1) nm d = true ∧ Gd (fw m) (3 * m + 2) d) hs1 (by omega) (fun hm0 x G' hs2 k2 ok' hok => ?_) fun acc G2 hlen hq hs2 k2 hacc => ?_
      · refine p_turn0.mpr ?_
        (simp only [List.map_cons, List.map_nil, wipeD]; dsimp only [assignT, List.set_cons_zero, List.set_cons_succ])
        walk_at "oc hd"
        rw [hsz]
        exact rc hs2 h0 (by omega) fun d G' hf hg hs' k' => hok d G' ⟨hf, hg⟩ hs' k'
      · walk_at "oc hd"
        have fin : ∀ x : Str, (x = "both" ∨ x = "either") → okF (.rt (.tup [.str x, .tup acc])) G2 := fun x hx => by
          refine h _ _ (fb_up (fb_list hx (by omega) fun d hd => (hq d hd).1) (by omega)) ?_ hs2 (k1.trans k2)
          have g1 := (Gds.all fun d hd => (hq d hd).2).tup
          have gx : ∀ j, Gd 1 j (.str x) := fun j => (gd_str (by rcases hx with rfl | rfl <;> decide +kernel)).up (Nat.le_refl _) (Nat.zero_le _)
          refine (Gds.cons (gx _) (Gds.cons g1 Gds.nil)).tup.up ?_ (by omega)
          have : acc.length * fw m ≤ 2 * fw m := Nat.mul_le_mul_right _ (by omega)
          omega
        by_cases w9 : wayI < 9
        · rw [decide_eq_true w9]
          walk_at "oc hd"
          refine (p_getS_loc hacc).mpr ?_
          walk_at "oc hd"
          refine ⟨sz (by decide), ?_⟩
          exact fin _ (.inl rfl)
        · rw [decide_eq_false w9]
          walk_at "oc hd"
          refine (p_getS_loc hacc).mpr ?_
          walk_at "oc hd"
          refine ⟨sz (by decide), ?_⟩
          exact fin _ (.inr rfl)
theorem s_form0 {s : Nat} {ds : List D} (hz : AllZ ds) (hl : ds.length ≤ 5) {nm : Int} (hs : SrcAt s G) (h0 : 0 ≤ nm) (h1 : nm ≤ 20)
    (h : ∀ d G', formB 1 nm d = true → Gd 8 2 d → SrcAt s G' → Kp s G G' → ok d G') : Post (callN prg (n + 4) 79 [.loc s, .int nm, .tup ds, .int ((0 : Nat) : Int)]) G ok ex := by
  rw [p_call (fn := f__law_formula) rfl rfl]
  unfold f__law_formula
  walk_at "oc stt"
  walk_at "oc hd"
  refine s_draw hb hs (by decide) (by decide) fun way G1 w0 w1 hs1 k1 => ?_
  walk_at "oc hd"
  by_cases hp : 0 < nm + ds.length
  · rw [show ((nm + (ds.length : Int)) == 0) = false from beq_eq_false_iff_ne.mpr (by omega)]
    walk_at "oc hd"
    rw [show (((0 : Nat) : Int) == 0) = true from rfl]
    walk_at "oc hd"
    refine ⟨sz (by decide), ?_⟩
    refine s_pick hb hs1.app get1 (by have := hs1.lt; omega) (by decide) (by decide) fun w hw G2 hs2 k2 => ?_
    walk_at "oc hd"
    refine s_lterm hs2 h0 (by omega) hz hl hp fun t G3 ht gt hs3 k3 => ?_
    walk_at "oc hd"
    refine s_lterm hs3 h0 (by omega) hz hl hp fun u G4 hu gu hs4 k4 => ?_
    walk_at "oc hd"
    refine ⟨sz (by decide), ?_⟩
    have hw' : ∃ x : Str, w = .str x ∧ (x = "less" ∨ x = "same") := by
      simp only [List.mem_cons, List.not_mem_nil, or_false] at hw
      rcases hw with rfl | rfl | rfl
      · exact ⟨_, rfl, .inl rfl⟩
      · exact ⟨_, rfl, .inl rfl⟩
      · exact ⟨_, rfl, .inr rfl⟩
    obtain ⟨x, rfl, hx⟩ := hw'
    refine h _ _ (fb_cmp hx ht hu) ?_ hs4 ((k1.trans Kp.app).trans ((k2.trans k3).trans k4))
    have g0 : Gd 1 1 (.str x) := (gd_str (by rcases hx with rfl | rfl <;> decide +kernel)).up (Nat.le_refl _) (by decide)
    exact (Gds.cons g0 (Gds.cons gt (Gds.cons gu Gds.nil))).tup
  · rw [show ((nm + (ds.length : Int)) == 0) = true from beq_iff_eq.mpr (by omega)]
    walk_at "oc hd"
    rw [show (((0 : Nat) : Int) == 0) = true from rfl]
    walk_at "oc hd"
    refine ⟨sz (by decide), ?_⟩
    refine h _ _ fb_yes ?_ hs1 k1
    exact ((Gds.cons (gd_str (by decide +kernel)) Gds.nil).tup).up (by decide) (by decide)
theorem s_formula {s : Nat} {ds : List D} (hz : AllZ ds) (hl : ds.length ≤ 5) : ∀ (m : Nat) {n : Nat} {G : GH} {ok : D → GH → Prop} {ex : Str → Option D → GH → Prop} {nm : Int}, SrcAt s G → 0 ≤ nm → nm + m ≤ 20 →
    (∀ d G', formB (2 * m + 1) nm d = true → Gd (fw m) (3 * m + 2) d → SrcAt s G' → Kp s G G' → ok d G') → Post (callN prg (n + m + 4) 79 [.loc s, .int nm, .tup ds, .int (m : Nat)]) G ok ex := by
  intro m
  induction m with
  | zero =>
    intro n G ok ex nm hs h0 h1 h
    exact s_form0 (n := n) hz hl hs h0 (by omega) h
  | succ m ih =>
    have zr : ∀ {n : Nat} {G : GH} {ok : D → GH → Prop} {ex : Str → Option D → GH → Prop} {nm : Int}, SrcAt s G → 0 ≤ nm → nm ≤ 20 → (∀ d G', formB 1 nm d = true → Gd 8 2 d → SrcAt s G' → Kp s G G' → ok d G') → Post (callN prg (n + 4) 79 [.loc s, .int nm, .tup ds, .int ((0 : Nat) : Int)]) G ok ex := fun a b c d => s_form0 hz hl a b c d
    intro n G ok ex nm hs h0 h1 h
    have sm : (((m + 1 : Nat) : Int) == 0) = false := beq_eq_false_iff_ne.mpr (by omega)
    rw [show n + (m + 1) + 4 = (n + m + 4) + 1 by omega, p_call (fn := f__law_formula) rfl rfl]
    unfold f__law_formula
    walk_at "oc stt"
    walk_at "oc hd"
    refine s_draw hb hs (by decide) (by decide) fun way G1 w0 w1 hs1 k1 => ?_
    walk_at "oc hd"
    have rest : ∀ {okF : Fl → GH → Prop}, (∀ d G', formB (2 * m + 3) nm d = true → Gd (2 * fw m + 5) (3 * m + 5) d → SrcAt s G' → Kp s G1 G' → okF (.rt d) G') →
        Post (denSs (callN prg (n + m + 4)) RSf [some (.loc s), some (.int nm), some (.tup ds), some (.int ((m + 1 : Nat) : Int)), some (.int way), none, none, none]) G1 okF noex := fun hk =>
      s_rest hs1 h0 (by omega) (by omega) (fun a b c d => ih (n := n) a b c d) (fun {G ok ex nm} a b c d => by
        have := zr (n := n + m) (G := G) (ok := ok) (ex := ex) (nm := nm) a b (by omega) d
        exact this) hk
    have fin : ∀ {okF : Fl → GH → Prop}, (∀ d G', okF (.rt d) G' = ok d G') → Post (denSs (callN prg (n + m + 4)) RSf [some (.loc s), some (.int nm), some (.tup ds), some (.int ((m + 1 : Nat) : Int)), some (.int way), none, none, none]) G1 okF noex := fun hk =>
      rest fun d G' a b c e => by rw [hk]; exact h d G' a (b.up (by simp only [fw]; omega) (by omega)) c (k1.trans e)
    by_cases hp : 0 < nm + ds.length
    · rw [show ((nm + (ds.length : Int)) == 0) = false from beq_eq_false_iff_ne.mpr (by omega)]
      walk_at "oc hd"
      rw [sm]
      walk_at "oc hd"
      by_cases w5 : way < 5
      · rw [decide_eq_true w5]
        walk_at "oc hd"
        refine ⟨sz (by decide), ?_⟩
        refine s_pick hb hs1.app get1 (by have := hs1.lt; omega) (by decide) (by decide) fun w hw G2 hs2 k2 => ?_
        walk_at "oc hd"
        refine s_lterm hs2 h0 (by omega) hz hl hp fun t G3 ht gt hs3 k3 => ?_
        walk_at "oc hd"
        refine s_lterm hs3 h0 (by omega) hz hl hp fun u G4 hu gu hs4 k4 => ?_
        walk_at "oc hd"
        refine ⟨sz (by decide), ?_⟩
        have hw' : ∃ x : Str, w = .str x ∧ (x = "less" ∨ x = "same") := by
          simp only [List.mem_cons, List.not_mem_nil, or_false] at hw
          rcases hw with rfl | rfl | rfl
          · exact ⟨_, rfl, .inl rfl⟩
          · exact ⟨_, rfl, .inl rfl⟩
          · exact ⟨_, rfl, .inr rfl⟩
        obtain ⟨x, rfl, hx⟩ := hw'
        refine h _ _ (fb_cmp hx ht hu) ?_ hs4 ((k1.trans Kp.app).trans ((k2.trans k3).trans k4))
        have g0 : Gd 1 1 (.str x) := (gd_str (by rcases hx with rfl | rfl <;> decide +kernel)).up (Nat.le_refl _) (by decide)
        exact (Gds.cons g0 (Gds.cons gt (Gds.cons gu Gds.nil))).tup.up (by have := fw_ge (m + 1); omega) (by omega)
      · rw [decide_eq_false w5]
        walk_at "oc hdc"
        exact fin fun _ _ => rfl
    · rw [show ((nm + (ds.length : Int)) == 0) = true from beq_iff_eq.mpr (by omega)]
      walk_at "oc hd"
      rw [sm]
      walk_at "oc hd"
      by_cases w5 : way < 5
      · rw [decide_eq_true w5]
        walk_at "oc hd"
        refine ⟨sz (by decide), ?_⟩
        refine h _ _ fb_yes ?_ hs1 k1
        exact ((Gds.cons (gd_str (by decide +kernel)) Gds.nil).tup).up (by have := fw_ge (m + 1); omega) (by omega)
      · rw [decide_eq_false w5]
        walk_at "oc hd"
        rw [sm]
        walk_at "oc hd"
        rw [decide_eq_false w5]
        walk_at "oc hdc"
        exact fin fun _ _ => rfl
end
end OC

namespace OC
open PySem PySem.Spec PyProof.Rows L2
section
variable {js : List Int} {k : Nat} {nm : Int} {w : Str}
theorem strIs_eq {x : D} (h : strIs w x = true) : x = .str w := by
  cases x with
  | str s => rw [beq_iff_eq.mp (show (s == w) = true from h)]
  | _ => cases h
theorem bb_step {x : D} {r : List D} : bodyB js (k + 1) nm (.tup (x :: r)) = (isS x &&
    (if strIs "call" x then callT js nm r
    else if strIs "both" x || strIs "either" x then fL (bodyB js k nm) r
    else if strIs "some" x || strIs "all" x then f1 (bodyB js k (nm + 1)) r
    else formB (k + 1) nm (.tup (x :: r)))) := rfl
theorem fb_step {x : D} {r : List D} : formB (k + 1) nm (.tup (x :: r)) = (if strIs "less" x || strIs "same" x then fT2 (termB nm) r
    else if strIs "both" x || strIs "either" x then fL (formB k nm) r
    else if strIs "not" x then f1 (formB k nm) r
    else if strIs "some" x || strIs "all" x then f1 (formB k (nm + 1)) r
    else strIs "yes" x && r.isEmpty) := rfl
theorem bb_plain {r : List D} (hw : w = "less" ∨ w = "same" ∨ w = "not" ∨ w = "yes") (h : formB (k + 1) nm (.tup (.str w :: r)) = true) : bodyB js (k + 1) nm (.tup (.str w :: r)) = true := by
  rw [bb_step]
  rcases hw with rfl | rfl | rfl | rfl <;> (rw [if_neg (by decide), if_neg (by decide), if_neg (by decide), h]; rfl)
theorem bb_list' {r : List D} (hw : w = "both" ∨ w = "either") (h : fL (bodyB js k nm) r = true) : bodyB js (k + 1) nm (.tup (.str w :: r)) = true := by
  rw [bb_step]
  rcases hw with rfl | rfl <;> (rw [if_neg (by decide), if_pos (by decide), h]; rfl)
theorem bb_quant' {r : List D} (hw : w = "some" ∨ w = "all") (h : f1 (bodyB js k (nm + 1)) r = true) : bodyB js (k + 1) nm (.tup (.str w :: r)) = true := by
  rw [bb_step]
  rcases hw with rfl | rfl <;> (rw [if_neg (by decide), if_neg (by decide), if_pos (by decide), h]; rfl)
theorem bb_call' {r : List D} (h : callT js nm r = true) : bodyB js (k + 1) nm (.tup (.str "call" :: r)) = true := by
  rw [bb_step, if_pos (by decide), h]; rfl
theorem bb_form : ∀ (k : Nat) {nm : Int} {d : D}, formB k nm d = true → bodyB js k nm d = true
  | 0, nm, d, h => by simp [formB] at h
  | k + 1, nm, d, h => by
    cases d with
    | tup xs =>
      cases xs with
      | nil => simp [formB] at h
      | cons x r =>
        have h' := h
        rw [fb_step] at h
        split at h
        · rename_i c
          rw [Bool.or_eq_true] at c
          rcases c with c | c <;> (have := strIs_eq c; subst this)
          · exact bb_plain (.inl rfl) h'
          · exact bb_plain (.inr (.inl rfl)) h'
        · split at h
          · rename_i c
            rw [Bool.or_eq_true] at c
            have h2 := fL_mono (fun d hd => bb_form k (nm := nm) hd) r h
            rcases c with c | c <;> (have := strIs_eq c; subst this)
            · exact bb_list' (.inl rfl) h2
            · exact bb_list' (.inr rfl) h2
          · split at h
            · rename_i c
              have := strIs_eq c; subst this
              exact bb_plain (.inr (.inr (.inl rfl))) h'
            · split at h
              · rename_i c
                rw [Bool.or_eq_true] at c
                have h2 := f1_mono (fun d hd => bb_form k (nm := nm + 1) hd) r h
                rcases c with c | c <;> (have := strIs_eq c; subst this)
                · exact bb_quant' (.inl rfl) h2
                · exact bb_quant' (.inr rfl) h2
              · rw [Bool.and_eq_true] at h
                have := strIs_eq h.1; subst this
                exact bb_plain (.inr (.inr (.inr rfl))) h'
    | _ => simp [formB] at h
theorem bb_mono : ∀ (k : Nat) {nm : Int} {d : D}, bodyB js k nm d = true → bodyB js (k + 1) nm d = true
  | 0, nm, d, h => by simp [bodyB] at h
  | k + 1, nm, d, h => by
    cases d with
    | tup xs =>
      cases xs with
      | nil => simp [bodyB] at h
      | cons x r =>
        rw [bb_step, Bool.and_eq_true] at h
        rw [bb_step, Bool.and_eq_true]
        refine ⟨h.1, ?_⟩
        have h := h.2
        split
        · rename_i hh; rw [if_pos hh] at h; exact h
        · rename_i hh; rw [if_neg hh] at h
          split
          · rename_i h2; rw [if_pos h2] at h; exact fL_mono (fun d hd => bb_mono k hd) r h
          · rename_i h2; rw [if_neg h2] at h
            split
            · rename_i h4; rw [if_pos h4] at h; exact f1_mono (fun d hd => bb_mono k hd) r h
            · rename_i h4; rw [if_neg h4] at h; exact fb_mono _ h
    | _ => simp [bodyB] at h
theorem bb_up {j : Nat} {d : D} (h : bodyB js k nm d = true) (hj : k ≤ j) : bodyB js j nm d = true := by
  induction hj with
  | refl => exact h
  | step _ ih => exact bb_mono _ ih
end
section
variable {n : Nat} {G : GH} {ok : D → GH → Prop} {ex : Str → Option D → GH → Prop}
def bw : Nat → Nat
  | 0 => 10
  | m + 1 => 2 * bw m + 5
theorem bw_ge : ∀ m, 10 ≤ bw m
  | 0 => by decide
  | m + 1 => by have := bw_ge m; simp only [bw]; omega
/-- the heads of a drawn defining -/
structure Hd (js : List Int) : Prop where
  pos : 0 < js.length
  len : js.length ≤ 3
  rng : ∀ j ∈ js, 0 ≤ j ∧ j ≤ 2
theorem atI_js {js : List Int} {f : Int} (h0 : 0 ≤ f) (h1 : f < js.length) : ∃ j ∈ js, atI (js.map D.int) f = some (.int j) ∧ atJ js (.int f) = j := by
  have hl : f.toNat < js.length := by omega
  refine ⟨js[f.toNat], List.getElem_mem hl, ?_, by simp [atJ, hl]⟩
  unfold atI ixN
  rw [List.length_map, if_pos h0, if_pos h1]
  simp [hl]
def RSb : ISs := (.cons (.ifs (.bool false (.cons (.cmp .eq (.v 4) (.k (.int 0))) (.cons (.cmp .lt (.v 5) (.k (.int 5))) .nil)))
    (.cons (.ret (.call 79 (.cons (.v 0) (.cons (.v 2) (.cons (.v 3) (.cons (.k (.int 0)) .nil)))) [] .nil))
    .nil)
    .nil)
    (.cons (.ifs (.cmp .eq (.v 5) (.k (.int 5)))
    (.cons (.ret (.tup (.cons (.k (.str ("not" : Str))) (.cons (.call 79 (.cons (.v 0) (.cons (.v 2) (.cons (.v 3) (.cons (.k (.int 0)) .nil)))) [] .nil) .nil))))
    .nil)
    .nil)
    (.cons (.ifs (.cmp .eq (.v 5) (.k (.int 6)))
    (.cons (.ret (.tup (.cons (.call 18 (.cons (.v 0) (.cons (.lst (.cons (.k (.str ("some" : Str))) (.cons (.k (.str ("some" : Str))) (.cons (.k (.str ("all" : Str))) .nil)))) .nil)) [] .nil) (.cons (.call 80 (.cons (.v 0) (.cons (.v 1) (.cons (.op .add (.v 2) (.k (.int 1))) (.cons (.v 3) (.cons (.k (.int 0)) .nil))))) [] .nil) .nil))))
    .nil)
    .nil)
    (.cons (.set (.nm 6) (.comp [("turn", 8)] (.call 80 (.cons (.v 0) (.cons (.v 1) (.cons (.v 2) (.cons (.v 3) (.cons (.op .sub (.v 4) (.k (.int 1))) .nil))))) [] .nil) (.nm 8) (.rng1 (.k (.int 2))) .none))
    (.cons (.ret (.tup (.cons (.ife (.cmp .lt (.v 5) (.k (.int 9))) (.k (.str ("both" : Str))) (.k (.str ("either" : Str)))) (.cons (.bi .tuple (.cons (.v 6) .nil)) .nil))))
    .nil)))))
/-- one thing whatever is drawn -/
theorem rest0 {s m : Nat} {js : List Int} {ds : List D} {nm wayI : Int} {o7 : Option D} {okF : Fl → GH → Prop} (hz : AllZ ds) (hl : ds.length ≤ 5) (hs : SrcAt s G) (h0 : 0 ≤ nm) (h1 : nm + m ≤ 18)
    (rc : ∀ (m' : Nat), m = m' + 1 → ∀ {G : GH} {ok : D → GH → Prop} {ex : Str → Option D → GH → Prop} {nm : Int}, SrcAt s G → 0 ≤ nm → nm + m' ≤ 18 →
      (∀ d G', bodyB js (m' + 1) nm d = true → Gd (bw m') (2 * m' + 3) d → SrcAt s G' → Kp s G G' → ok d G') → Post (callN prg (n + m + 5) 80 [.loc s, hdsD js, .int nm, .tup ds, .int (m' : Nat)]) G ok ex)
    (rc0 : 0 < m → ∀ {G : GH} {ok : D → GH → Prop} {ex : Str → Option D → GH → Prop} {nm : Int}, SrcAt s G → 0 ≤ nm → nm ≤ 18 →
      (∀ d G', bodyB js 1 nm d = true → Gd 10 3 d → SrcAt s G' → Kp s G G' → ok d G') → Post (callN prg (n + m + 5) 80 [.loc s, hdsD js, .int nm, .tup ds, .int ((0 : Nat) : Int)]) G ok ex)
    (h : ∀ d G', bodyB js (m + 1) nm d = true → Gd (bw m) (2 * m + 3) d → SrcAt s G' → Kp s G G' → okF (.rt d) G') :
    Post (denSs (callN prg (n + m + 5)) RSb [some (.loc s), some (hdsD js), some (.int nm), some (.tup ds), some (.int (m : Nat)), some (.int wayI), none, o7, none]) G okF noex := by
  unfold RSb
  have f8 := bw_ge m
  have form : ∀ {G : GH} {ok : D → GH → Prop} {ex : Str → Option D → GH → Prop}, SrcAt s G → (∀ d G', formB 1 nm d = true → Gd 8 2 d → SrcAt s G' → Kp s G G' → ok d G') → Post (callN prg (n + m + 5) 79 [.loc s, .int nm, .tup ds, .int 0]) G ok ex := fun {G ok ex} a b => by
    have := s_form0 (n := n + m + 1) (G := G) (ok := ok) (ex := ex) hz hl a h0 (by omega) b
    exact this
  walk_at "oc hd"
  cases m with
  | zero =>
    rw [show (((0 : Nat) : Int) == 0) = true from rfl]
    walk_at "oc hd"
    refine form hs fun d G' hf hg hs' k' => ?_
    exact h _ _ (bb_up (bb_form _ hf) (by omega)) (hg.up (by decide) (by decide)) hs' k'
  | succ m =>
    rw [show (((m + 1 : Nat) : Int) == 0) = false from beq_eq_false_iff_ne.mpr (by omega)]
    walk_at "oc hd"
    by_cases w5 : wayI < 5
    · rw [decide_eq_true w5]
      walk_at "oc hd"
      refine form hs fun d G' hf hg hs' k' => ?_
      exact h _ _ (bb_up (bb_form _ hf) (by omega)) (hg.up (by omega) (by omega)) hs' k'
    · rw [decide_eq_false w5]
      walk_at "oc hd"
      by_cases w6 : wayI = 5
      · subst w6
        rw [show ((5 : Int) == 5) = true from rfl]
        walk_at "oc hd"
        refine form hs fun d G' hf hg hs' k' => ?_
        walk_at "oc hd"
        refine ⟨sz (by decide), ?_⟩
        refine h _ _ (bb_up (bb_form _ (fb_not hf)) (by omega)) ?_ hs' k'
        exact (Gds.cons ((gd_str (by decide +kernel)).up (Nat.le_refl _) (Nat.zero_le _)) (Gds.cons hg Gds.nil)).tup.up (by omega) (by omega)
      · rw [beq_eq_false_iff_ne.mpr w6]
        walk_at "oc hd"
        by_cases w7 : wayI = 6
        · subst w7
          rw [show ((6 : Int) == 6) = true from rfl]
          walk_at "oc hd"
          refine ⟨sz (by decide), ?_⟩
          refine s_pick hb hs.app get1 (by have := hs.lt; omega) (by decide) (by decide) fun w hw G3 hs3 k3 => ?_
          have hw' : ∃ x : Str, w = .str x ∧ (x = "some" ∨ x = "all") := by
            simp only [List.mem_cons, List.not_mem_nil, or_false] at hw
            rcases hw with rfl | rfl | rfl
            · exact ⟨_, rfl, .inl rfl⟩
            · exact ⟨_, rfl, .inl rfl⟩
            · exact ⟨_, rfl, .inr rfl⟩
          obtain ⟨x, rfl, hx⟩ := hw'
          walk_at "oc hd"
          refine rc0 (by omega) hs3 (by omega) (by omega) fun d G' hf hg hs' k' => ?_
          walk_at "oc hd"
          refine ⟨sz (by decide), ?_⟩
          refine h _ _ (bb_up (bb_quant' hx hf) (by omega)) ?_ hs' ((Kp.app.trans k3).trans k')
          have gx : Gd 1 3 (.str x) := (gd_str (by rcases hx with rfl | rfl <;> decide +kernel)).up (Nat.le_refl _) (Nat.zero_le _)
          have := bw_ge m
          exact (Gds.cons gx (Gds.cons hg Gds.nil)).tup.up (by simp only [bw]; omega) (by omega)
        · rw [beq_eq_false_iff_ne.mpr w7]
          walk_at "oc hd"
          refine ⟨by constructor <;> omega, ?_⟩
          refine comp_draw (m := 2) (Q := fun d => bodyB js (m + 1) nm d = true ∧ Gd (bw m) (2 * m + 3) d) hs (by omega) (fun hm0 x G' hs2 k2 ok' hok => ?_) fun acc G2 hlen hq hs2 k2 hacc => ?_
          · refine p_turn0.mpr ?_
            (simp only [List.map_cons, List.map_nil, wipeD]; dsimp only [assignT, List.set_cons_zero, List.set_cons_succ])
            walk_at "oc hd"
            rw [show (((m + 1 : Nat) : Int) - 1) = (m : Nat) by omega]
            exact rc m rfl hs2 h0 (by omega) fun d G' hf hg hs' k' => hok d G' ⟨hf, hg⟩ hs' k'
          · walk_at "oc hd"
            have fin : ∀ x : Str, (x = "both" ∨ x = "either") → okF (.rt (.tup [.str x, .tup acc])) G2 := fun x hx => by
              have e : fL (bodyB js (m + 1) nm) [.tup acc] = true := by
                simp only [fL, Bool.and_eq_true, List.all_eq_true]
                exact ⟨by cases acc with
                  | nil => simp at hlen
                  | cons a b => rfl, fun y hy => (hq y hy).1⟩
              refine h _ _ (bb_list' hx e) ?_ hs2 k2
              have g1 := (Gds.all fun d hd => (hq d hd).2).tup
              have gx : ∀ j, Gd 1 j (.str x) := fun j => (gd_str (by rcases hx with rfl | rfl <;> decide +kernel)).up (Nat.le_refl _) (Nat.zero_le _)
              refine (Gds.cons (gx _) (Gds.cons g1 Gds.nil)).tup.up ?_ (by omega)
              rw [hlen]
              simp only [bw]; omega
            by_cases w9 : wayI < 9
            · rw [decide_eq_true w9]
              walk_at "oc hd"
              refine (p_getS_loc hacc).mpr ?_
              walk_at "oc hd"
              refine ⟨sz (by decide), ?_⟩
              exact fin _ (.inl rfl)
            · rw [decide_eq_false w9]
              walk_at "oc hd"
              refine (p_getS_loc hacc).mpr ?_
              walk_at "oc hd"
              refine ⟨sz (by decide), ?_⟩
              exact fin _ (.inr rfl)
def ECb : IE := (.tup (.cons (.k (.str ("call" : Str))) (.cons (.v 7) (.cons (.bi .tuple (.cons (.comp [("turn", 8)] (.call 78 (.cons (.v 0) (.cons (.v 2) (.cons (.v 3) .nil))) [] .nil) (.nm 8) (.rng1 (.idx (.v 1) (.v 7))) .none) .nil)) .nil))))
theorem s_ecall {s c : Nat} {js : List Int} {ds : List D} {nm f : Int} {o4 o5 o6 : Option D} (hj : Hd js) (hz : AllZ ds) (hl : ds.length ≤ 5) (hs : SrcAt s G) (h0 : 0 ≤ nm) (h1 : nm ≤ 20) (f0 : 0 ≤ f) (f1 : f < js.length) (hp : 0 < nm + ds.length ∨ atJ js (.int f) = 0)
    (h : ∀ d G', bodyB js 1 nm d = true → Gd 10 3 d → SrcAt s G' → Kp s G G' → ok d G') : Post (den (callN prg (c + 2)) ECb [some (.loc s), some (hdsD js), some (.int nm), some (.tup ds), o4, o5, o6, some (.int f), none]) G ok ex := by
  unfold ECb hdsD
  obtain ⟨j, hm, e, ej⟩ := atI_js f0 f1
  obtain ⟨j0, j2⟩ := hj.rng j hm
  walk_at "oc hd"
  rw [e]
  walk_at "oc hd"
  refine ⟨by constructor <;> omega, ?_⟩
  refine comp_draw (m := j.toNat) (Q := fun d => termB nm d = true ∧ Gd 3 1 d) hs (by omega) (fun hm0 x G' hs2 k2 ok' hok => ?_) fun acc G2 hlen hq hs2 k2 hacc => ?_
  · refine p_turn0.mpr ?_
    (simp only [List.map_cons, List.map_nil, wipeD]; dsimp only [assignT, List.set_cons_zero, List.set_cons_succ])
    walk_at "oc hd"
    by_cases hp2 : 0 < nm + ds.length
    · exact s_lterm hs2 h0 h1 hz hl hp2 fun d G' a b c e => hok d G' ⟨a, b⟩ c e
    · exfalso
      rcases hp with hp | hp
      · exact hp2 hp
      · rw [ej] at hp; omega
  · walk_at "oc hd"
    refine (p_getS_loc hacc).mpr ?_
    walk_at "oc hd"
    refine ⟨sz (by decide), ?_⟩
    refine h _ _ (bb_call' ?_) ?_ hs2 k2
    · rw [callT_two]
      have b1 : belowB js.length (.int f) = true := by simp [belowB, f0, f1]
      have b2 : tupB (atJ js (.int f)) (.tup acc) = true := by
        rw [ej]; simp only [tupB]; rw [beq_iff_eq, hlen]; omega
      rw [b1, b2]
      simp only [tAll, Bool.true_and, List.all_eq_true]
      exact fun y hy => (hq y hy).1
    · have g1 := (Gds.all fun d hd => (hq d hd).2).tup
      have gx : ∀ j, Gd 1 j (.str "call") := fun j => (gd_str (by decide +kernel)).up (Nat.le_refl _) (Nat.zero_le _)
      have gf : Gd 1 2 (.int f) := (Gd.int (log_small (by have := hj.len; omega))).up (Nat.le_refl _) (Nat.zero_le _)
      refine (Gds.cons (gx _) (Gds.cons gf (Gds.cons g1 Gds.nil))).tup.up ?_ (by omega)
      have : acc.length * 3 ≤ 2 * 3 := Nat.mul_le_mul_right _ (by omega)
      omega
def BKb : ISs := (.cons (.set (.nm 7) (.call 17 (.cons (.v 0) (.cons (.bi .len (.cons (.v 1) .nil)) .nil)) [] .nil))
    (.cons (.ifs (.bool false (.cons (.cmp .gt (.op .add (.v 2) (.bi .len (.cons (.v 3) .nil))) (.k (.int 0))) (.cons (.cmp .eq (.idx (.v 1) (.v 7)) (.k (.int 0))) .nil)))
    (.cons (.ret (.tup (.cons (.k (.str ("call" : Str))) (.cons (.v 7) (.cons (.bi .tuple (.cons (.comp [("turn", 8)] (.call 78 (.cons (.v 0) (.cons (.v 2) (.cons (.v 3) .nil))) [] .nil) (.nm 8) (.rng1 (.idx (.v 1) (.v 7))) .none) .nil)) .nil)))))
    .nil)
    .nil)
    .nil))
theorem s_head {s c : Nat} {js : List Int} {ds : List D} {nm : Int} {o4 o5 o6 : Option D} {okF : Fl → GH → Prop} (hj : Hd js) (hz : AllZ ds) (hl : ds.length ≤ 5) (hs : SrcAt s G) (h0 : 0 ≤ nm) (h1 : nm ≤ 20)
    (hr : ∀ d G', bodyB js 1 nm d = true → Gd 10 3 d → SrcAt s G' → Kp s G G' → okF (.rt d) G') (hn : ∀ f G', SrcAt s G' → Kp s G G' → okF (.nx [some (.loc s), some (hdsD js), some (.int nm), some (.tup ds), o4, o5, o6, some f, none]) G') :
    Post (denSs (callN prg (c + 2)) BKb [some (.loc s), some (hdsD js), some (.int nm), some (.tup ds), o4, o5, o6, none, none]) G okF noex := by
  unfold BKb
  have jl := hj.len; have jp := hj.pos
  unfold hdsD at hn ⊢
  walk_at "oc hd"
  rw [List.length_map]
  refine s_draw hb hs (by omega) (by omega) fun f G1 f0 f1 hs1 k1 => ?_
  walk_at "oc hd"
  by_cases hp : 0 < nm + ds.length
  · rw [decide_eq_true hp]
    walk_at "oc hdc"
    exact ret_then (s_ecall hj hz hl hs1 h0 h1 f0 f1 (.inl hp) fun d G' a b cc e => hr d G' a b cc (k1.trans e))
  · rw [decide_eq_false hp]
    walk_at "oc hd"
    obtain ⟨j, hm, e, ej⟩ := atI_js f0 f1
    rw [e]
    walk_at "oc hd"
    by_cases h00 : j = 0
    · subst h00
      rw [show ((0 : Int) == 0) = true from rfl]
      walk_at "oc hdc"
      exact ret_then (s_ecall hj hz hl hs1 h0 h1 f0 f1 (.inr ej) fun d G' a b cc e => hr d G' a b cc (k1.trans e))
    · rw [beq_eq_false_iff_ne.mpr h00]
      walk_at "oc hd"
      exact hn _ _ hs1 k1
theorem s_lbody {s : Nat} {js : List Int} {ds : List D} (hj : Hd js) (hz : AllZ ds) (hl : ds.length ≤ 5) : ∀ (m : Nat) {n : Nat} {G : GH} {ok : D → GH → Prop} {ex : Str → Option D → GH → Prop} {nm : Int}, SrcAt s G → 0 ≤ nm → nm + m ≤ 18 →
    (∀ d G', bodyB js (m + 1) nm d = true → Gd (bw m) (2 * m + 3) d → SrcAt s G' → Kp s G G' → ok d G') → Post (callN prg (n + m + 6) 80 [.loc s, hdsD js, .int nm, .tup ds, .int (m : Nat)]) G ok ex := by
  have main : ∀ (m : Nat), (∀ (m' : Nat), m = m' + 1 → ∀ {n : Nat} {G : GH} {ok : D → GH → Prop} {ex : Str → Option D → GH → Prop} {nm : Int}, SrcAt s G → 0 ≤ nm → nm + m' ≤ 18 →
      (∀ d G', bodyB js (m' + 1) nm d = true → Gd (bw m') (2 * m' + 3) d → SrcAt s G' → Kp s G G' → ok d G') → Post (callN prg (n + m' + 6) 80 [.loc s, hdsD js, .int nm, .tup ds, .int (m' : Nat)]) G ok ex) →
      (0 < m → ∀ {n : Nat} {G : GH} {ok : D → GH → Prop} {ex : Str → Option D → GH → Prop} {nm : Int}, SrcAt s G → 0 ≤ nm → nm ≤ 18 →
      (∀ d G', bodyB js 1 nm d = true → Gd 10 3 d → SrcAt s G' → Kp s G G' → ok d G') → Post (callN prg (n + 6) 80 [.loc s, hdsD js, .int nm, .tup ds, .int ((0 : Nat) : Int)]) G ok ex) →
      ∀ {n : Nat} {G : GH} {ok : D → GH → Prop} {ex : Str → Option D → GH → Prop} {nm : Int}, SrcAt s G → 0 ≤ nm → nm + m ≤ 18 →
      (∀ d G', bodyB js (m + 1) nm d = true → Gd (bw m) (2 * m + 3) d → SrcAt s G' → Kp s G G' → ok d G') → Post (callN prg (n + m + 6) 80 [.loc s, hdsD js, .int nm, .tup ds, .int (m : Nat)]) G ok ex := by
    intro m rc rc0 n G ok ex nm hs h0 h1 h
    rw [p_call (fn := f__law_body) rfl rfl]
    unfold f__law_body
    walk_at "oc stt"
    have hd80 : hdsD js = .tup (js.map D.int) := rfl
    walk_at "oc hd"
    refine s_draw hb hs (by decide) (by decide) fun way G1 w0 w1 hs1 k1 => ?_
    walk_at "oc hd"
    have rest : ∀ {G2 : GH} {okF : Fl → GH → Prop} {o7 : Option D}, SrcAt s G2 → Kp s G G2 → (∀ d G', okF (.rt d) G' = ok d G') →
        Post (denSs (callN prg (n + m + 5)) RSb [some (.loc s), some (hdsD js), some (.int nm), some (.tup ds), some (.int (m : Nat)), some (.int way), none, o7, none]) G2 okF noex := fun a b c =>
      rest0 hz hl a h0 h1 (fun m' e {G ok ex nm} p q r t => by
        have := rc m' e (n := n) (G := G) (ok := ok) (ex := ex) (nm := nm) p q r t
        rw [show n + m + 5 = n + m' + 6 by omega]; exact this) (fun e {G ok ex nm} p q r t => by
        obtain ⟨m', rfl⟩ : ∃ m', m = m' + 1 := ⟨m - 1, by omega⟩
        have := rc0 e (n := n + m') (G := G) (ok := ok) (ex := ex) (nm := nm) p q r t
        rw [show n + (m' + 1) + 5 = n + m' + 6 by omega]; exact this) fun d G' p q r t => by rw [c]; exact h d G' p q r (b.trans t)
    by_cases w3 : way < 3
    · rw [decide_eq_true w3]
      walk_at "oc hdc"
      refine s_head (c := n + m + 3) hj hz hl hs1 h0 (by omega) (fun d G' a b c e => h _ _ (bb_up a (by omega)) (b.up (bw_ge m) (by omega)) c (k1.trans e)) fun f G' a b => ?_
      walk_at "oc hdc"
      exact rest a (k1.trans b) fun _ _ => rfl
    · rw [decide_eq_false w3]
      walk_at "oc hd"
      cases m with
      | zero =>
        rw [show (((0 : Nat) : Int) == 0) = true from rfl]
        walk_at "oc hd"
        by_cases w7 : way < 7
        · rw [decide_eq_true w7]
          walk_at "oc hdc"
          refine s_head (c := n + 0 + 3) hj hz hl hs1 h0 (by omega) (fun d G' a b c e => h _ _ (bb_up a (by omega)) (b.up (bw_ge 0) (by omega)) c (k1.trans e)) fun f G' a b => ?_
          walk_at "oc hdc"
          exact rest a (k1.trans b) fun _ _ => rfl
        · rw [decide_eq_false w7]
          walk_at "oc hdc"
          exact rest hs1 k1 fun _ _ => rfl
      | succ m =>
        rw [show (((m + 1 : Nat) : Int) == 0) = false from beq_eq_false_iff_ne.mpr (by omega)]
        walk_at "oc hdc"
        exact rest hs1 k1 fun _ _ => rfl
  intro m
  induction m with
  | zero =>
    intro n G ok ex nm hs h0 h1 h
    exact main 0 (fun m' e => by omega) (fun e => by omega) hs h0 h1 h
  | succ m ih =>
    intro n G ok ex nm hs h0 h1 h
    refine main (m + 1) (fun m' e => by cases (show m' = m by omega); exact ih) (fun _ {n G ok ex nm} a b c d => ?_) hs h0 h1 h
    exact main 0 (n := n) (fun m' e => by omega) (fun e => by omega) a b (by omega) d
end
end OC

namespace OC
open PySem PySem.Spec PyProof.Rows L2
/-- a drawn rule -/
def RuleOk (js : List Int) (r : D) : Prop := ∃ (head nm : Int) (body : D), r = .tup [.int head, .int nm, body] ∧ 0 ≤ head ∧ head < js.length ∧ atJ js (.int head) ≤ nm ∧ 0 ≤ nm ∧ nm ≤ 3 ∧ bodyB js 3 nm body = true ∧ Gd 55 7 body
theorem len_wDs : ∀ xs : List D, xs.length ≤ wD.wDs xs
  | [] => Nat.le_refl _
  | x :: xs => by
    have := len_wDs xs
    have h1 : 1 ≤ wD x := by cases x <;> simp [wD]
    simp only [List.length_cons, wD.wDs]; omega
mutual
theorem ln_of : ∀ d : D, wD d ≤ 1000 → lnB d = true
  | .tup xs, h => by
    simp only [wD] at h
    simp only [lnB, Bool.and_eq_true]
    exact ⟨decide_eq_true (by have := len_wDs xs; omega), lns_of xs (by omega)⟩
  | .non, _ | .bl _, _ | .int _, _ | .str _, _ | .frz _, _ | .loc _, _ => by simp [lnB]
theorem lns_of : ∀ xs : List D, wD.wDs xs ≤ 1000 → lnB.lnBs xs = true
  | [], _ => rfl
  | x :: xs, h => by
    simp only [wD.wDs] at h
    simp only [lnB.lnBs, Bool.and_eq_true]
    exact ⟨ln_of x (by omega), lns_of xs (by omega)⟩
end
theorem Gd.wz {G : GH} {w k j : Nat} {d : D} (h : Gd w k d) (hw : w ≤ 1000) (hk : k < j) : Wz G j d := ⟨Rz.pure h.pu (Nat.lt_of_le_of_lt h.dp hk), ln_of d (Nat.le_trans h.wt hw)⟩
theorem ruleB_3 {js : List Int} {head nm : Int} {b : D} (h0 : 0 ≤ head) (h1 : head < js.length) (h2 : atJ js (.int head) ≤ nm) : ruleB js (.tup [.int head, .int nm, b]) = bodyB js 20 nm b := by
  have e1 : belowB js.length (.int head) = true := by simp [belowB, h0, h1]
  have e2 : fromB (atJ js (.int head)) (.int nm) = true := by simp [fromB, h2]
  simp only [ruleB, e1, e2, Bool.true_and, bodyD]
theorem RuleOk.b {js : List Int} {r : D} (h : RuleOk js r) : ruleB js r = true := by
  obtain ⟨head, nm, body, rfl, a, b, c, d, e, f, g⟩ := h
  rw [ruleB_3 a b c]
  exact bb_up f (by decide)
theorem RuleOk.gd {js : List Int} {r : D} (hj : js.length ≤ 3) (h : RuleOk js r) : Gd 58 8 r := by
  obtain ⟨head, nm, body, rfl, a, b, c, d, e, f, g⟩ := h
  have g1 : Gd 1 7 (.int head) := (Gd.int (log_small (by omega))).up (Nat.le_refl _) (Nat.zero_le _)
  have g2 : Gd 1 7 (.int nm) := (Gd.int (log_small (by omega))).up (Nat.le_refl _) (Nat.zero_le _)
  exact (Gds.cons g1 (Gds.cons g2 (Gds.cons g Gds.nil))).tup
/-- a drawn defining -/
structure DefOk (js : List Int) (rs : List D) : Prop where
  hd : Hd js
  pos : 0 < rs.length
  len : rs.length ≤ 4
  rl : ∀ r ∈ rs, RuleOk js r
theorem hds_gd {js : List Int} (h : Hd js) {k : Nat} : Gds 3 k (js.map D.int) := by
  have : Gds ((js.map D.int).length * 1) k (js.map D.int) := Gds.all fun d hd => by
    obtain ⟨j, hm, rfl⟩ := List.mem_map.mp hd
    have := h.rng j hm
    exact (Gd.int (log_small (by omega))).up (Nat.le_refl _) (Nat.zero_le _)
  exact this.up (by rw [List.length_map]; have := h.len; omega) (Nat.le_refl _)
theorem DefOk.gd {js : List Int} {rs : List D} (h : DefOk js rs) : Gd 240 10 (.tup [hdsD js, .tup rs]) := by
  have g1 : Gds (rs.length * 58) 8 rs := Gds.all fun r hr => (h.rl r hr).gd h.hd.len
  have g2 : Gd 4 9 (hdsD js) := (hds_gd h.hd (k := 8)).tup
  refine (Gds.cons g2 (Gds.cons g1.tup Gds.nil)).tup.up ?_ (Nat.le_refl _)
  have : rs.length * 58 ≤ 4 * 58 := Nat.mul_le_mul_right _ h.len
  omega
theorem hds_from {js : List Int} (h : Hd js) : (js.map D.int).all (fromB 0) = true := by
  rw [List.all_eq_true]
  intro d hd
  obtain ⟨j, hm, rfl⟩ := List.mem_map.mp hd
  simp [fromB, (h.rng j hm).1]
theorem find_none {js : List Int} {rs : List D} (h : ∀ r ∈ rs, ruleB js r = true) : rs.findIdx? (fun x => !ruleB js x) = none := by
  rw [List.findIdx?_eq_none_iff]
  intro x hx
  rw [h x hx]; rfl
theorem DefOk.ok {js : List Int} {rs : List D} (h : DefOk js rs) : faultD (.tup [hdsD js, .tup rs]) = .non := by
  show headsF (hdsD js) (.tup rs) = .non
  unfold hdsD
  simp only [headsF]
  rw [if_pos (hds_from h.hd), jsOf_map]
  simp only [rulesF]
  rw [find_none fun r hr => (h.rl r hr).b]
section
variable {n : Nat} {G : GH} {ok : D → GH → Prop} {ex : Str → Option D → GH → Prop}
theorem ints_of {acc : List D} (h : ∀ d ∈ acc, ∃ j : Int, d = .int j ∧ 0 ≤ j ∧ j ≤ 2) : ∃ js : List Int, acc = js.map D.int ∧ ∀ j ∈ js, 0 ≤ j ∧ j ≤ 2 := by
  have e := jsOf_ok (hs := acc) (by
    rw [List.all_eq_true]
    intro d hd
    obtain ⟨j, rfl, a, b⟩ := h d hd
    simp [fromB, a])
  refine ⟨jsOf acc, e, fun j hj => ?_⟩
  have : D.int j ∈ acc := by rw [e]; exact List.mem_map_of_mem hj
  obtain ⟨i, e2, a, b⟩ := h _ this
  cases e2
  exact ⟨a, b⟩
def LSd : ISs := (.cons (.set (.nm 7) (.ife (.cmp .gt (.call 17 (.cons (.v 0) (.cons (.k (.int 3)) .nil)) [] .nil) (.k (.int 0))) (.call 80 (.cons (.v 0) (.cons (.v 2) (.cons (.v 6) (.cons (.v 1) (.cons (.k (.int 2)) .nil))))) [] .nil) (.call 79 (.cons (.v 0) (.cons (.v 6) (.cons (.v 1) (.cons (.k (.int 1)) .nil)))) [] .nil)))
    (.cons (.ex (.meth .append (.v 3) (.cons (.tup (.cons (.v 5) (.cons (.v 6) (.cons (.v 7) .nil)))) .nil)))
    .nil))
theorem s_defining {s : Nat} {ds : List D} (hz : AllZ ds) (hl : ds.length ≤ 5) (hs : SrcAt s G) (h : ∀ js rs G', DefOk js rs → SrcAt s G' → ok (.tup [hdsD js, .tup rs]) G') : Post (callN prg (n + 9) 81 [.loc s, .tup ds]) G ok ex := by
  rw [p_call (fn := f__law_defining) rfl rfl]
  unfold f__law_defining
  walk_at "oc stt"
  walk_at "oc hd"
  refine s_draw hb hs (by decide) (by decide) fun f G1 f0 f1 hs1 k1 => ?_
  walk_at "oc hd"
  refine ⟨by constructor <;> omega, ?_⟩
  refine comp_draw (Q := fun d => ∃ j : Int, d = .int j ∧ 0 ≤ j ∧ j ≤ 2) hs1 (by omega) (fun hm0 x G' hs2 k2 ok' hok => ?_) fun acc G2 hlen hq hs2 k2 hacc => ?_
  · refine p_turn0.mpr ?_
    (simp only [List.map_cons, List.map_nil, wipeD]; dsimp only [assignT, List.set_cons_zero, List.set_cons_succ])
    walk_at "oc hd"
    refine ⟨sz (by decide), ?_⟩
    refine s_pick hb hs2.app get1 (by have := hs2.lt; omega) (by decide) (by decide) fun w hw G3 hs3 k3 => ?_
    refine hok w G3 ?_ hs3 (Kp.app.trans k3)
    simp only [List.mem_cons, List.not_mem_nil, or_false] at hw
    rcases hw with rfl | rfl | rfl | rfl
    · exact ⟨_, rfl, by decide, by decide⟩
    · exact ⟨_, rfl, by decide, by decide⟩
    · exact ⟨_, rfl, by decide, by decide⟩
    · exact ⟨_, rfl, by decide, by decide⟩
  · obtain ⟨js, rfl, hrng⟩ := ints_of hq
    rw [List.length_map] at hlen
    have hj : Hd js := ⟨by omega, by omega, hrng⟩
    walk_at "oc hd"
    refine (p_getS_loc hacc).mpr ?_
    walk_at "oc hd"
    refine ⟨Nat.zero_le _, ?_⟩
    walk_at "oc hd"
    refine s_draw hb hs2.app (by decide) (by decide) fun f2 G3 f20 f21 hs3 k3 => ?_
    walk_at "oc hd"
    refine ⟨by constructor <;> omega, ?_⟩
    have hps : G2.length ≠ s := by have := hs2.lt; omega
    have h3 : G3[G2.length]? = some (.lst []) := k3.get get1 hps
    refine loop_go (fun i σ G' => (∃ a b c e, σ = [some (.loc s), some (.tup ds), some (hdsD js), some (.loc G2.length), a, b, c, e]) ∧ SrcAt s G' ∧ ∃ rs, G'[G2.length]? = some (.lst rs) ∧ rs.length = i ∧ ∀ r ∈ rs, RuleOk js r)
      ⟨⟨_, _, _, _, rfl⟩, hs3, [], h3, rfl, by simp⟩ ?_ ?_
    · rintro i x σ G' hi ⟨⟨a, b, c, e, rfl⟩, i1, rs, i2, i3, i4⟩
      refine ⟨rfl, ?_⟩
      have hlt := (List.getElem?_eq_some_iff.mp hi).1
      rw [rng_len] at hlt
      dsimp only [assignT, List.set_cons_zero, List.set_cons_succ]
      unfold hdsD
      walk_at "oc hd"
      rw [List.length_map]
      refine s_draw hb i1 (by omega) (by omega) fun g G4 g0 g1 hs4 k4 => ?_
      obtain ⟨j, hm, eat, ej⟩ := atI_js g0 g1
      obtain ⟨j0, j2⟩ := hj.rng j hm
      walk_at "oc hd"
      rw [eat]
      walk_at "oc hd"
      rw [eat]
      walk_at "oc hd"
      have last : ∀ (nm : Int) (G5 : GH) {okF : Fl → GH → Prop}, SrcAt s G5 → Kp s G4 G5 → j ≤ nm → 0 ≤ nm → nm ≤ 3 → (∀ rs' o1 o2 o3 G', SrcAt s G' → G'[G2.length]? = some (.lst rs') → rs'.length = i + 1 → (∀ r ∈ rs', RuleOk js r) → okF (.nx [some (.loc s), some (.tup ds), some (.tup (js.map D.int)), some (.loc G2.length), some x, o1, o2, o3]) G') →
          Post (denSs (callN prg (n + 8)) LSd [some (.loc s), some (.tup ds), some (.tup (js.map D.int)), some (.loc G2.length), some x, some (.int g), some (.int nm), e]) G5 okF noex := by
        intro nm G5 okF hs5 k5 n1 n2 n3 hk
        unfold LSd
        have e5 : G5[G2.length]? = some (.lst rs) := k5.get (k4.get i2 hps) hps
        have put : ∀ (body : D) (G6 : GH) , SrcAt s G6 → Kp s G5 G6 → bodyB js 3 nm body = true → Gd 55 7 body → G6[G2.length]? = some (.lst rs) ∧ RuleOk js (.tup [.int g, .int nm, body]) := fun body G6 a b c d =>
          ⟨b.get e5 hps, g, nm, body, rfl, g0, g1, by rw [ej]; exact n1, n2, n3, c, d⟩
        walk_at "oc hd"
        refine s_draw hb hs5 (by decide) (by decide) fun z G6 z0 z1 hs6 k6 => ?_
        walk_at "oc hd"
        have fin : ∀ (body : D) (G7 : GH) {okk : D → GH → Prop} {exx : Str → Option D → GH → Prop}, SrcAt s G7 → Kp s G6 G7 → bodyB js 3 nm body = true → Gd 55 7 body → (∀ G8, SrcAt s G8 → G8[G2.length]? = some (.lst (rs ++ [.tup [.int g, .int nm, body]])) → okk .non G8) →
            Post (methD .append (.loc G2.length) [.tup [.int g, .int nm, body]]) G7 okk exx := fun body G7 okk exx a b c d hh => by
          obtain ⟨p1, p2⟩ := put body G7 a (k6.trans b) c d
          refine (p_append p1 (by omega)).mpr ?_
          refine hh _ (a.set hps) ?_
          rw [List.getElem?_set_self (lt_of_get p1)]
        have add : ∀ (body : D), RuleOk js (.tup [.int g, .int nm, body]) → (rs ++ [D.tup [.int g, .int nm, body]]).length = i + 1 ∧ ∀ r ∈ rs ++ [D.tup [.int g, .int nm, body]], RuleOk js r := fun body hb2 =>
          ⟨by simp [i3], fun r hr => by
            rcases List.mem_append.mp hr with hr | hr
            · exact i4 r hr
            · rw [List.mem_singleton.mp hr]; exact hb2⟩
        by_cases hz0 : 0 < z
        · rw [decide_eq_true hz0]
          walk_at "oc hd"
          refine s_lbody hj hz hl 2 (n := n) hs6 n2 (by omega) fun body G7 hb7 hg7 hs7 k7 => ?_
          walk_at "oc hd"
          refine ⟨sz (by decide), ?_⟩
          walk_at "oc hd"
          have pr := put body G7 hs7 (k6.trans k7) hb7 hg7
          refine fin body G7 hs7 k7 hb7 hg7 fun G8 hs8 e8 => ?_
          walk_at "oc hd"
          obtain ⟨q1, q2⟩ := add body pr.2
          exact hk _ _ _ _ _ hs8 e8 q1 q2
        · rw [decide_eq_false hz0]
          walk_at "oc hd"
          refine s_formula hz hl 1 (n := n + 3) hs6 n2 (by omega) fun body G7 hb7 hg7 hs7 k7 => ?_
          walk_at "oc hd"
          refine ⟨sz (by decide), ?_⟩
          have hg8 : Gd 55 7 body := hg7.up (by decide) (by decide)
          have hb8 := bb_form (js := js) 3 hb7
          walk_at "oc hd"
          have pr := put body G7 hs7 (k6.trans k7) hb8 hg8
          refine fin body G7 hs7 k7 hb8 hg8 fun G8 hs8 e8 => ?_
          walk_at "oc hd"
          obtain ⟨q1, q2⟩ := add body pr.2
          exact hk _ _ _ _ _ hs8 e8 q1 q2
      have tail : ∀ (nm : Int) (G5 : GH), SrcAt s G5 → Kp s G4 G5 → j ≤ nm → 0 ≤ nm → nm ≤ 3 → Post (denSs (callN prg (n + 8)) LSd [some (.loc s), some (.tup ds), some (.tup (js.map D.int)), some (.loc G2.length), some x, some (.int g), some (.int nm), e]) G5
          (fun fl G1 => match fl with
            | .nx σ1 => (∃ a b c e, σ1 = [some (.loc s), some (.tup ds), some (hdsD js), some (.loc G2.length), a, b, c, e]) ∧ SrcAt s G1 ∧ ∃ rs, G1[G2.length]? = some (.lst rs) ∧ rs.length = i + 1 ∧ ∀ r ∈ rs, RuleOk js r
            | _ => False) noex := fun nm G5 a b c d f => by
        refine last nm G5 a b c d f fun rs' o1 o2 o3 G' q1 q2 q3 q4 => ?_
        exact ⟨⟨_, _, _, _, rfl⟩, q1, rs', q2, q3, q4⟩
      have go : ∀ {okF : Fl → GH → Prop} (nm : Int) (G5 : GH), SrcAt s G5 → Kp s G4 G5 → j ≤ nm → 0 ≤ nm → nm ≤ 3 → (∀ fl G1, (match fl with
            | .nx σ1 => (∃ a b c e, σ1 = [some (.loc s), some (.tup ds), some (hdsD js), some (.loc G2.length), a, b, c, e]) ∧ SrcAt s G1 ∧ ∃ rs, G1[G2.length]? = some (.lst rs) ∧ rs.length = i + 1 ∧ ∀ r ∈ rs, RuleOk js r
            | _ => False) → okF fl G1) → Post (denSs (callN prg (n + 8)) LSd [some (.loc s), some (.tup ds), some (.tup (js.map D.int)), some (.loc G2.length), some x, some (.int g), some (.int nm), e]) G5 okF noex := fun nm G5 a b c d f hh =>
        (tail nm G5 a b c d f).mono hh fun _ _ _ z => z
      by_cases hj2 : j < 2
      · rw [decide_eq_true hj2]
        walk_at "oc hd"
        refine s_draw hb hs4 (by decide) (by decide) fun z G5 z0 z1 hs5 k5 => ?_
        walk_at "oc hdc"
        refine go _ _ hs5 k5 (by omega) (by omega) (by omega) fun fl G1 hh => ?_
        cases fl with
        | nx σ1 => exact hh
        | _ => exact hh.elim
      · rw [decide_eq_false hj2]
        walk_at "oc hdc"
        refine p_k.mpr ?_
        walk_at "oc hdc"
        refine go (j + 0) _ hs4 Kp.refl (by omega) (by omega) (by omega) fun fl G1 hh => ?_
        cases fl with
        | nx σ1 => exact hh
        | _ => exact hh.elim
    · rintro σ G' ⟨⟨a, b, c, e, rfl⟩, i1, rs, i2, i3, i4⟩
      refine ⟨rfl, ?_⟩
      rw [rng_len] at i3
      walk_at "oc hd"
      refine (p_getS_loc i2).mpr ?_
      walk_at "oc hd"
      refine ⟨sz (by decide), ?_⟩
      exact h js rs _ ⟨hj, by omega, by omega, i4⟩ i1
end
end OC

namespace OC
open PySem PySem.Spec PyProof.Rows L2
/-- so many times the same -/
def rep (j : Int) (d : D) : List D := (List.replicate j.toNat [d]).flatten
theorem rep_len {j : Int} {d : D} : (rep j d).length = j.toNat := by unfold rep; rw [List.length_flatten]; simp
theorem rep_mem {j : Int} {d x : D} (h : x ∈ rep j d) : x = d := by
  unfold rep at h
  rw [List.mem_flatten] at h
  obtain ⟨l, h1, h2⟩ := h
  rw [List.eq_of_mem_replicate h1] at h2
  exact List.mem_singleton.mp h2
def oddA (js : List Int) (f nm j : Int) (i3 : Nat) (body : D) : List D := ([.non, .tup [], .tup [.int f, .int nm], .tup [.int f, .int nm, body, .int 0], .loc i3, .tup [.int js.length, .int nm, body], .tup [.int (-1), .int nm, body], .tup [.bl true, .int nm, .tup [.str "yes"]]] : List D) ++ ([.tup [.non, .int nm, body], .tup [.int f, .int (j - 1), .tup [.str "yes"]], .tup [.int f, .bl true, .tup [.str "yes"]], .tup [.int f, .str "1", body], .tup [.int f, .non, body], .tup [.int f, .int nm, .non]] : List D)
def oddB (js : List Int) (f nm j : Int) (i1 i2 : Nat) (last : List D) : List D := ([.tup [.str "not", .tup [.str "call", .int f, .tup (rep j (.int 0))]], .tup [.str "all", .tup [.str "not", .tup [.str "call", .int f, .tup (rep j (.int 0))]]],
        .tup [.str "both", .tup [.tup [.str "yes"], .tup [.str "not", .tup [.str "either", .tup [.tup [.str "call", .int f, .tup (rep j (.int 0))], .tup [.str "yes"]]]]]], .tup [.str "call", .int js.length, .tup []], .tup [.str "call", .int (-1), .tup []]] : List D) ++ ([.tup [.str "call", .int f, .tup (rep (j + 1) (.int 0))], .tup [.str "call", .int f, .loc i1], .tup [.str "call", .int f], .tup [.str "call", .bl true, .tup []], .str "yes"] : List D) ++ ([.tup [.str "same", .int nm, .int nm], .tup [.str "both", .tup []], .tup [.str "either", .loc i2], .tup [.str "some", .tup [.str "same", .int (nm + 1), .int 0]], .tup [.str "call", .int f, .tup last]] : List D)
section
variable {G : GH}
theorem wz_int {k : Nat} {i : Int} : Wz G (k + 1) (.int i) := ⟨⟨_, rfl⟩, rfl⟩
theorem wz_str {k : Nat} {i : Str} : Wz G (k + 1) (.str i) := ⟨⟨_, rfl⟩, rfl⟩
theorem wz_non {k : Nat} : Wz G (k + 1) .non := ⟨⟨_, rfl⟩, rfl⟩
theorem wz_bl {k : Nat} {b : Bool} : Wz G (k + 1) (.bl b) := ⟨⟨_, rfl⟩, rfl⟩
def Wzs (G : GH) (k : Nat) (xs : List D) : Prop := ∀ x ∈ xs, Wz G k x
theorem wzs_nil {k : Nat} : Wzs G k [] := fun x hx => absurd hx (by simp)
theorem wzs_cons {k : Nat} {x : D} {xs : List D} (h : Wz G k x) (hs : Wzs G k xs) : Wzs G k (x :: xs) := fun y hy => (List.mem_cons.mp hy).elim (fun e => e ▸ h) (hs y)
theorem wz_tup {k : Nat} {xs : List D} (hl : xs.length ≤ 1000) (h : Wzs G k xs) : Wz G (k + 1) (.tup xs) := Wz.tupm hl h
theorem wz_loc {k i : Nat} {xs : List D} (hi : G[i]? = some (.lst xs)) (h : Wzs G k xs) : Wz G (k + 1) (.loc i) := ⟨Rz.mkL hi fun x hx => (h x hx).rz, rfl⟩
theorem wz_rep {k : Nat} {j i : Int} (hj : j ≤ 1000) : Wz G (k + 2) (.tup (rep j (.int i))) := Wz.tupm (by rw [rep_len]; omega) fun x hx => by rw [rep_mem hx]; exact wz_int
theorem wzs_rep {k : Nat} {j : Int} : Wzs G (k + 2) (rep j (.tup [.int 0, .int 1])) := fun x hx => by rw [rep_mem hx]; exact wz_tup (by decide) (wzs_cons wz_int (wzs_cons wz_int wzs_nil))
variable {js : List Int} {f nm j : Int} {body : D} {last : List D} {i1 i2 i3 : Nat}
theorem term_self {nm : Int} : termB nm (.int nm) = false := by simp [termB, belowB, numB]
theorem below_self {nm : Int} : belowB nm (.int nm) = false := by simp [belowB]
theorem odd_call {ts : D} {k : Nat} (h : (tupB (atJ js (.int f)) ts && tAll (termB nm) ts) = false) : bodyB js (k + 1) nm (.tup [.str "call", .int f, ts]) = false := by
  rw [bb_step, if_pos (by decide), callT_two, h, Bool.and_false, Bool.and_false]
theorem odd_ok (hj : Hd js) (f0 : 0 ≤ f) (f1 : f < js.length) (ej : atJ js (.int f) = j) (j0 : 0 ≤ j) (j2 : j ≤ 2) (n0 : j ≤ nm) (n1 : 0 ≤ nm) (hg : Gd 55 7 body)
    (hlast : last = if 0 < j then rep j (.int nm) else [.int 0]) (h1 : G[i1]? = some (.lst (rep j (.tup [.int 0, .int 1])))) (h2 : G[i2]? = some (.lst [.tup [.str "yes"]])) (h3 : G[i3]? = some (.lst [.int f, .int nm, body])) :
    ∀ x ∈ oddA js f nm j i3 body ++ (oddB js f nm j i1 i2 last).map (fun y => D.tup [.int f, .int nm, y]),
      Wz G 21 x ∧ ruleB js x = false := by
  have hlw : ∀ {k : Nat}, Wz G (k + 2) (.tup last) := by
    intro k
    rw [hlast]
    split
    · exact wz_rep (by omega)
    · exact wz_tup (by decide) (wzs_cons wz_int wzs_nil)
  have r3 : ∀ {b : D}, bodyB js 20 nm b = false → ruleB js (.tup [.int f, .int nm, b]) = false := fun {b} hb3 => by rw [ruleB_3 f0 f1 (by rw [ej]; exact n0)]; exact hb3
  intro x hx
  refine ⟨?_, ?_⟩
  · unfold oddA oddB at hx
    simp only [List.cons_append, List.nil_append, List.map_cons, List.map_nil] at hx
    revert x hx
    show Wzs G 21 _
    repeat (first | exact wz_int | exact wz_str | exact wz_non | exact wz_bl | exact Gd.wz hg (by decide) (by decide) | exact wz_rep (by omega) | exact hlw | exact wz_loc h1 wzs_rep | refine wz_loc h2 ?_ | refine wz_loc h3 ?_ | refine wz_tup (Nat.le_of_ble_eq_true rfl) ?_ | exact wzs_nil | refine wzs_cons ?_ ?_)
  · unfold oddA oddB at hx
    rw [List.mem_append, List.mem_append, List.mem_map] at hx
    simp only [List.cons_append, List.nil_append, List.mem_cons, List.not_mem_nil, or_false] at hx
    rcases hx with (hx | hx) | ⟨y, hx, rfl⟩
    · rcases hx with rfl | rfl | rfl | rfl | rfl | rfl | rfl | rfl
      · rfl
      · rfl
      · rfl
      · rfl
      · rfl
      · simp only [ruleB, below_self, Bool.false_and]
      · rfl
      · rfl
    · rcases hx with rfl | rfl | rfl | rfl | rfl | rfl
      · rfl
      · simp only [ruleB, ej]
        rw [show fromB j (.int (j - 1)) = false by simp [fromB]; omega]
        simp
      · simp [ruleB, fromB]
      · simp [ruleB, fromB]
      · simp [ruleB, fromB]
      · exact r3 rfl
    · refine r3 ?_
      rcases hx with rfl | rfl | rfl | rfl | rfl | rfl | rfl | rfl | rfl | rfl | rfl | rfl | rfl | rfl | rfl
      · rw [bb_step]; rfl
      · rw [bb_step]; rfl
      · rw [bb_step]; rfl
      · rw [bb_step, if_pos (by decide), callT_two, below_self]; rfl
      · rfl
      · refine odd_call ?_
        rw [ej]
        have : tupB j (.tup (rep (j + 1) (.int 0))) = false := by
          simp only [tupB]; rw [rep_len]; exact beq_eq_false_iff_ne.mpr (by omega)
        rw [this]; rfl
      · exact odd_call rfl
      · rfl
      · rfl
      · rfl
      · rw [bb_step, if_neg (by decide), if_neg (by decide), if_neg (by decide), fb_step, if_pos (by decide)]
        simp only [fT2, term_self]; rfl
      · rfl
      · rfl
      · rw [bb_step, if_neg (by decide), if_neg (by decide), if_pos (by decide)]
        simp only [OC.f1]
        rw [bb_step, if_neg (by decide), if_neg (by decide), if_neg (by decide), fb_step, if_pos (by decide)]
        simp only [fT2, term_self]; rfl
      · refine odd_call ?_
        rw [ej, hlast]
        split
        · rename_i hp
          obtain ⟨y, ys, e⟩ : ∃ y ys, rep j (.int nm) = y :: ys := by
            cases e : rep j (.int nm) with
            | nil => have := rep_len (j := j) (d := .int nm); rw [e] at this; simp at this; omega
            | cons y ys => exact ⟨y, ys, rfl⟩
          have hy : y = .int nm := rep_mem (by rw [e]; exact List.mem_cons_self)
          rw [e, hy]
          simp only [tAll, List.all_cons, term_self, Bool.false_and, Bool.and_false]
        · rename_i hp
          have : tupB j (.tup [.int 0]) = false := by
            simp only [tupB]; exact beq_eq_false_iff_ne.mpr (by simp; omega)
          rw [this]; rfl
end
end OC

namespace OC
open PySem PySem.Spec PyProof.Rows L2
section
variable {n : Nat} {G : GH} {ok : D → GH → Prop} {ex : Str → Option D → GH → Prop}
theorem p_mulT {xs : List D} {j : Int} (h1 : xs.length ≤ 1000 ∧ 0 ≤ j ∧ j ≤ 1000) (h : ok (.tup (List.replicate j.toNat xs).flatten) G) : Post (opD .mul (.tup xs) (.int j)) G ok ex := by
  show Post (if xs.length ≤ 1000 ∧ 0 ≤ j ∧ j ≤ 1000 then mret (D.tup (List.replicate j.toNat xs).flatten) else mbad) G ok ex
  rw [if_pos h1]; exact h
theorem p_mulL {i : Nat} {xs : List D} {j : Int} (e : G[i]? = some (.lst xs)) (h1 : 0 ≤ j ∧ j ≤ 1000000 ∧ xs.length * j.toNat ≤ 1000) (h : ok (.loc G.length) (G ++ [.lst (List.replicate j.toNat xs).flatten])) : Post (opD .mul (.loc i) (.int j)) G ok ex := by
  show Post (fun G => (match G[i]? with
    | some (.lst xs) => if 0 ≤ j ∧ j ≤ 1000000 ∧ xs.length * j.toNat ≤ sizeLine then newL (List.replicate j.toNat xs).flatten G else .bad
    | none => .bad)) G ok ex
  have hz : xs.length * j.toNat ≤ sizeLine := by rw [sizeLine_eq]; omega
  unfold Post
  simp only [e, if_pos (⟨h1.1, h1.2.1, hz⟩ : 0 ≤ j ∧ j ≤ 1000000 ∧ xs.length * j.toNat ≤ sizeLine)]
  have hl : (List.replicate j.toNat xs).flatten.length ≤ sizeLine := by
    rw [List.length_flatten]; simp
    rw [Nat.mul_comm]; exact hz
  unfold newL
  simp only [hl, if_true]
  exact h
theorem p_mulT1 {d : D} {j : Int} (h1 : 0 ≤ j ∧ j ≤ 1000) (h : ok (.tup (rep j d)) G) : Post (opD .mul (.tup [d]) (.int j)) G ok ex := p_mulT ⟨by simp only [List.length_cons, List.length_nil]; omega, h1⟩ h
theorem p_mulL1 {i : Nat} {d : D} {j : Int} (e : G[i]? = some (.lst [d])) (h1 : 0 ≤ j ∧ j ≤ 1000) (h : ok (.loc G.length) (G ++ [.lst (rep j d)])) : Post (opD .mul (.loc i) (.int j)) G ok ex :=
  p_mulL e ⟨h1.1, by omega, by simp only [List.length_cons, List.length_nil]; omega⟩ h
theorem odd_end {js : List Int} {f nm j : Int} {body : D} {last : List D} {i1 i2 i3 ia ib : Nat} {G' : GH} {o0 o1 o7 o8 : Option D} (hj : Hd js) (f0 : 0 ≤ f) (f1 : f < js.length) (ej : atJ js (.int f) = j) (j0 : 0 ≤ j) (j2 : j ≤ 2) (n0 : j ≤ nm) (n1 : 0 ≤ nm) (hg : Gd 55 7 body)
    (hlast : last = if 0 < j then rep j (.int nm) else [.int 0]) (h1 : G'[i1]? = some (.lst (rep j (.tup [.int 0, .int 1])))) (h2 : G'[i2]? = some (.lst [.tup [.str "yes"]])) (h3 : G'[i3]? = some (.lst [.int f, .int nm, body]))
    (ha : G'[ia]? = some (.lst (oddA js f nm j i3 body))) (hb : G'[ib]? = some (.lst (oddB js f nm j i1 i2 last))) (hx : ∃ t, G' = G ++ t)
    (h : ∀ xs t p, G.length ≤ p → (G ++ t)[p]? = some (.lst xs) → 0 < xs.length → xs.length ≤ 100 → (∀ x ∈ xs, Wz (G ++ t) 21 x ∧ ruleB js x = false) → ok (.loc p) (G ++ t)) :
    Post (compG [(ib, oddB js f nm j i1 i2 last)] G'.length (turnC (callN prg n) (.tup (.cons (.v 4) (.cons (.v 5) (.cons (.v 9) .nil)))) (.nm 9) .none [o0, o1, some (.loc ib), some (.loc ia), some (.int f), some (.int nm), some body, o7, o8, none]) (oddB js f nm j i1 i2 last)) (G' ++ [.lst []])
      (fun _ G2 => Post (opD .add (.loc ia) (.loc G'.length)) G2 ok ex) ex := by
  obtain ⟨t, rfl⟩ := hx
  refine comp_pure (fun y => some (.tup [.int f, .int nm, y])) (fun x hx acc ok' hok => ?_) (fun acc => chkG1 (get_app hb)) (by unfold oddB; simp) ?_
  · refine p_turn0.mpr ?_
    dsimp only [assignT, List.set_cons_zero, List.set_cons_succ]
    walk_at "oc hd"
    refine ⟨sz (by decide), ?_⟩
    exact hok
  · rw [show (oddB js f nm j i1 i2 last).filterMap (fun y => some (D.tup [.int f, .int nm, y])) = (oddB js f nm j i1 i2 last).map (fun y => D.tup [.int f, .int nm, y]) from List.filterMap_eq_map (f := fun y => D.tup [.int f, .int nm, y]) ▸ rfl]
    refine (p_addL (get_app ha) get1).mpr ⟨sz (by unfold oddA oddB; simp), ?_⟩
    have e := odd_ok (G := G ++ t ++ [.lst ((oddB js f nm j i1 i2 last).map (fun y => D.tup [.int f, .int nm, y]))] ++ [.lst (oddA js f nm j i3 body ++ (oddB js f nm j i1 i2 last).map (fun y => D.tup [.int f, .int nm, y]))]) (last := last) hj f0 f1 ej j0 j2 n0 n1 hg hlast (get_app (get_app h1)) (get_app (get_app h2)) (get_app (get_app h3))
    have hl := get1 (G := G ++ t ++ [.lst ((oddB js f nm j i1 i2 last).map (fun y => D.tup [.int f, .int nm, y]))]) (x := .lst (oddA js f nm j i3 body ++ (oddB js f nm j i1 i2 last).map (fun y => D.tup [.int f, .int nm, y])))
    have h := h (oddA js f nm j i3 body ++ (oddB js f nm j i1 i2 last).map (fun y => D.tup [.int f, .int nm, y])) (t ++ ([.lst ((oddB js f nm j i1 i2 last).map (fun y => D.tup [.int f, .int nm, y]))] ++ [.lst (oddA js f nm j i3 body ++ (oddB js f nm j i1 i2 last).map (fun y => D.tup [.int f, .int nm, y]))])) (G ++ t ++ [GO.lst ((oddB js f nm j i1 i2 last).map (fun y => D.tup [.int f, .int nm, y]))]).length (by simp only [List.length_append]; omega) (by simp only [← List.append_assoc]; exact hl) (by unfold oddA; simp) (by unfold oddA oddB; simp) (by simp only [← List.append_assoc]; exact e)
    simp only [← List.append_assoc] at h
    exact h
theorem s_odd {js : List Int} {f nm : Int} {body : D} (hj : Hd js) (f0 : 0 ≤ f) (f1 : f < js.length) (n0 : atJ js (.int f) ≤ nm) (n1 : 0 ≤ nm) (n3 : nm ≤ 3) (hb3 : bodyB js 3 nm body = true) (hg : Gd 55 7 body)
    (h : ∀ xs t p, G.length ≤ p → (G ++ t)[p]? = some (.lst xs) → 0 < xs.length → xs.length ≤ 100 → (∀ x ∈ xs, Wz (G ++ t) 21 x ∧ ruleB js x = false) → ok (.loc p) (G ++ t)) :
    Post (callN prg (n + 1) 83 [hdsD js, .tup [.int f, .int nm, body]]) G ok ex := by
  rw [p_call (fn := f__law_odd_rules) rfl rfl]
  unfold f__law_odd_rules hdsD
  walk_at "oc stt"
  obtain ⟨j, hm, eat, ej⟩ := atI_js f0 f1
  obtain ⟨j0, j2⟩ := hj.rng j hm
  have jl := hj.len
  have hsz1 : 1 ≤ sizeLine := sz (by decide)
  walk_at "oc hd"
  refine ⟨hsz1, ?_⟩
  walk_at "oc hd"
  rw [eat]
  walk_at "oc hd"
  refine p_mulT1 (by omega) ?_
  walk_at "oc hd"
  refine ⟨sz (by decide), ?_⟩
  walk_at "oc hd"
  repeat (refine ⟨sz (by decide), ?_⟩; walk_at "oc hd")
  rw [eat]
  walk_at "oc hd"
  refine p_mulT1 (by omega) ?_
  walk_at "oc hd"
  repeat (refine ⟨sz (by decide), ?_⟩; walk_at "oc hd")
  rw [eat]
  walk_at "oc hd"
  refine p_mulL1 get1 (by omega) ?_
  walk_at "oc hd"
  repeat (refine ⟨sz (by decide), ?_⟩; walk_at "oc hd")
  refine (p_addL (by walk_at "oc gt") (by walk_at "oc gt")).mpr ⟨sz (by simp only [List.length_append, List.length_cons, List.length_nil]; decide), ?_⟩
  walk_at "oc hd"
  repeat (refine ⟨sz (by decide), ?_⟩; walk_at "oc hd")
  rw [eat]
  walk_at "oc hd"
  rw [List.length_map]
  by_cases hj0 : 0 < j
  · rw [decide_eq_true hj0]
    walk_at "oc hd"
    refine ⟨hsz1, ?_⟩
    walk_at "oc hd"
    rw [eat]
    walk_at "oc hd"
    refine p_mulT1 (by omega) ?_
    have hlast : rep j (.int nm) = if 0 < j then rep j (.int nm) else [.int 0] := (if_pos hj0).symm
    walk_at "oc hd"
    repeat (refine ⟨sz (by decide), ?_⟩; walk_at "oc hd")
    refine (p_addL (by walk_at "oc gt") (by walk_at "oc gt")).mpr ⟨sz (by simp only [List.length_append, List.length_cons, List.length_nil]; decide), ?_⟩
    walk_at "oc hd"
    repeat (refine ⟨sz (by decide), ?_⟩; walk_at "oc hd")
    rw [eat]
    walk_at "oc hd"
    repeat (refine ⟨sz (by decide), ?_⟩; walk_at "oc hd")
    refine (p_addL (by walk_at "oc gt") (by walk_at "oc gt")).mpr ⟨sz (by simp only [List.length_append, List.length_cons, List.length_nil]; decide), ?_⟩
    walk_at "oc hd"
    refine (p_seq_loc (by walk_at "oc gt")).mpr ?_
    dsimp only
    refine odd_end (i3 := ?i3) hj f0 f1 ej j0 j2 (ej ▸ n0) n1 hg hlast ?h1 ?h2 ?h3 ?ha ?hb ?hx h
    case ha => walk_at "oc gt"
    case h1 => walk_at "oc gt"
    case h2 => walk_at "oc gt"
    case h3 => walk_at "oc gt"
    case hb => walk_at "oc gt"
    case hx => simp only [List.append_assoc]; exact ⟨_, rfl⟩
  · rw [decide_eq_false hj0]
    walk_at "oc hd"
    refine ⟨hsz1, ?_⟩
    walk_at "oc hd"
    have hlast : [D.int 0] = if 0 < j then rep j (.int nm) else [.int 0] := (if_neg hj0).symm
    walk_at "oc hd"
    repeat (refine ⟨sz (by decide), ?_⟩; walk_at "oc hd")
    refine (p_addL (by walk_at "oc gt") (by walk_at "oc gt")).mpr ⟨sz (by simp only [List.length_append, List.length_cons, List.length_nil]; decide), ?_⟩
    walk_at "oc hd"
    repeat (refine ⟨sz (by decide), ?_⟩; walk_at "oc hd")
    rw [eat]
    walk_at "oc hd"
    repeat (refine ⟨sz (by decide), ?_⟩; walk_at "oc hd")
    refine (p_addL (by walk_at "oc gt") (by walk_at "oc gt")).mpr ⟨sz (by simp only [List.length_append, List.length_cons, List.length_nil]; decide), ?_⟩
    walk_at "oc hd"
    refine (p_seq_loc (by walk_at "oc gt")).mpr ?_
    dsimp only
    refine odd_end (i3 := ?k3) hj f0 f1 ej j0 j2 (ej ▸ n0) n1 hg hlast ?h1b ?h2b ?h3b ?hab ?hbb ?hxb h
    case hab => walk_at "oc gt"
    case h1b => walk_at "oc gt"
    case h2b => walk_at "oc gt"
    case h3b => walk_at "oc gt"
    case hbb => walk_at "oc gt"
    case hxb => simp only [List.append_assoc]; exact ⟨_, rfl⟩
end
end OC

namespace OC
open PySem PySem.Spec PyProof.Rows L2
theorem rs_loc {G : GH} {j i : Nat} {xs : List D} {p : PyData} (e : G[i]? = some (.lst xs)) (h : rs G (j + 1) (.loc i) = some p) : ∀ x ∈ xs, Rz G j x := by
  unfold rs at h
  rw [e] at h
  obtain ⟨ps, e2, _⟩ := Option.map_eq_some_iff.mp (show (mapO (rs G j) xs).map PyData.list = some p from h)
  intro x hx
  obtain ⟨i, hi⟩ := List.getElem?_of_mem hx
  obtain ⟨y, _, h2⟩ := (mapO_some e2).2 i x hi
  exact ⟨y, h2⟩
theorem rs_loc_get {G : GH} {j i : Nat} {p : PyData} (h : rs G (j + 1) (.loc i) = some p) : ∃ xs, G[i]? = some (.lst xs) := by
  unfold rs at h
  cases eg : G[i]? with
  | none => rw [eg] at h; simp at h
  | some o => obtain ⟨xs⟩ := o; exact ⟨xs, rfl⟩
theorem Rz.kp {s : Nat} {G G' : GH} (hs : SrcAt s G) (hs' : SrcAt s G') (k : Kp s G G') : ∀ {j : Nat} {d : D}, Rz G j d → Rz G' j d
  | 0, d, h => by obtain ⟨p, e⟩ := h; cases d <;> cases e
  | j + 1, .non, _ | j + 1, .bl _, _ | j + 1, .int _, _ | j + 1, .str _, _ => ⟨_, rfl⟩
  | j + 1, .tup xs, h => Rz.mk fun x hx => Rz.kp hs hs' k (h.tup x hx)
  | j + 1, .frz xs, h => by
    obtain ⟨p, h⟩ := h
    obtain ⟨ps, e, rfl⟩ := Option.map_eq_some_iff.mp (show (mapO (rs G j) xs).map PyData.list = some p from h)
    obtain ⟨ys, e2⟩ := mapO_of (f := rs G' j) (xs := xs) fun x hx => by
      obtain ⟨i, hi⟩ := List.getElem?_of_mem hx
      obtain ⟨y, _, h2⟩ := (mapO_some e).2 i x hi
      exact Rz.kp hs hs' k ⟨y, h2⟩
    exact ⟨.list ys, by show (mapO (rs G' j) xs).map _ = _; rw [e2]; rfl⟩
  | j + 1, .loc i, h => by
    obtain ⟨p, h⟩ := h
    obtain ⟨xs, e⟩ := rs_loc_get h
    have hx := rs_loc e h
    by_cases hi : i = s
    · subst hi
      obtain ⟨a, b, c, e1⟩ := hs
      obtain ⟨a', b', c', e2⟩ := hs'
      rw [e] at e1
      cases e1
      have h1 := hx (.int a) (by simp)
      have : ∃ j', j = j' + 1 := by
        cases j with
        | zero => obtain ⟨q, e⟩ := h1; cases e
        | succ j' => exact ⟨j', rfl⟩
      obtain ⟨j', rfl⟩ := this
      refine Rz.mkL e2 fun x hx => ?_
      simp only [List.mem_cons, List.not_mem_nil, or_false] at hx
      rcases hx with rfl | rfl | rfl <;> exact Rz.int
    · exact Rz.mkL (k.get e hi) fun x hm => Rz.kp hs hs' k (hx x hm)
theorem Wz.kp {s : Nat} {G G' : GH} (hs : SrcAt s G) (hs' : SrcAt s G') (k : Kp s G G') {j : Nat} {d : D} (h : Wz G j d) : Wz G' j d := ⟨h.rz.kp hs hs' k, h.ln⟩
/-- a part that is told -/
def PartOk (p : D) : Prop := ∃ ks : List Int, p = .tup (ks.map D.int) ∧ ks.length ≤ 2 ∧ ∀ j ∈ ks, 0 ≤ j ∧ j ≤ 4
theorem PartOk.gd {p : D} (h : PartOk p) : Gd 10 3 p := by
  obtain ⟨ks, rfl, hl, hr⟩ := h
  have : Gds ((ks.map D.int).length * 1) 2 (ks.map D.int) := Gds.all fun d hd => by
    obtain ⟨j, hm, rfl⟩ := List.mem_map.mp hd
    have := hr j hm
    exact (Gd.int (log_small (by omega))).up (Nat.le_refl _) (Nat.zero_le _)
  exact this.tup.up (by rw [List.length_map]; omega) (by decide)
theorem PartOk.same {p : D} (h : PartOk p) : SameOk prg 2 p := by
  obtain ⟨ks, rfl, hl, hr⟩ := h
  exact same_ints hb (by omega)
theorem PartOk.bad {G : GH} {d p : D} (h : PartOk p) (e : faultD d = p) (w : Wz G 23 d) : Bad G d := by
  refine ⟨w, ?_, ?_, ?_⟩
  · obtain ⟨ks, e2, _, _⟩ := h; rw [e, e2]; rfl
  · rw [e]; exact h.gd
  · obtain ⟨ks, e2, _, _⟩ := h; rw [e, e2]; intro s h; cases h
theorem find_at {js : List Int} {r1 r2 : List D} {odd : D} (h1 : ∀ r ∈ r1, ruleB js r = true) (h2 : ruleB js odd = false) : (r1 ++ odd :: r2).findIdx? (fun x => !ruleB js x) = some r1.length := by
  rw [List.findIdx?_append, find_none h1]
  simp [List.findIdx?_cons, h2]
theorem fault_rules {js : List Int} (hj : Hd js) {r : D} : faultD (.tup [hdsD js, r]) = rulesF js r := by
  show headsF (hdsD js) r = _
  unfold hdsD
  simp only [headsF]
  rw [if_pos (hds_from hj), jsOf_map]
/-- heads that are none -/
def WrongOk (G : GH) (w : D) : Prop := Wz G 22 w ∧ ∀ r, faultD (.tup [w, r]) = .tup [.int 0]
theorem wrong_tup {G : GH} {js : List Int} (hj : Hd js) {y : D} (hy : Wz G 21 y) (h : fromB 0 y = false) : WrongOk G (.tup (js.map D.int ++ [y])) := by
  refine ⟨wz_tup (by have := hj.len; simp; omega) fun x hx => ?_, fun r => ?_⟩
  · rcases List.mem_append.mp hx with hx | hx
    · obtain ⟨j, _, rfl⟩ := List.mem_map.mp hx; exact wz_int
    · rw [List.mem_singleton.mp hx]; exact hy
  · show headsF (.tup (js.map D.int ++ [y])) r = _
    simp only [headsF]
    rw [if_neg]
    simp [List.all_append, h]
section
variable {n : Nat} {G : GH} {ok : D → GH → Prop} {ex : Str → Option D → GH → Prop}
def BWb : ISs := (.cons (.set (.nm 4) (.call 18 (.cons (.v 0) (.cons (.lst (.cons (.bi .list (.cons (.v 6) .nil)) (.cons (.op .add (.v 6) (.tup (.cons (.neg (.k (.int 1))) .nil))) (.cons (.op .add (.v 6) (.tup (.cons (.k (.bl true)) .nil))) (.cons (.k .non) (.cons (.k (.str ("1" : Str))) (.cons (.op .add (.v 6) (.tup (.cons (.tup (.cons (.k (.int 1)) .nil)) .nil))) (.cons (.k (.int 3)) (.cons (.op .add (.v 6) (.tup (.cons (.k .non) .nil))) .nil))))))))) .nil)) [] .nil))
    (.cons (.set (.nm 5) (.lst (.cons (.tup (.cons (.tup (.cons (.v 6) .nil)) (.cons (.tup .nil) .nil))) (.cons (.tup (.cons (.op .add (.v 1) (.tup (.cons (.k (.int 0)) .nil))) (.cons (.tup .nil) .nil))) (.cons (.tup (.cons (.bi .list (.cons (.v 1) .nil)) (.cons (.tup .nil) .nil))) (.cons (.tup (.cons (.k .non) (.cons (.tup .nil) .nil))) (.cons (.tup (.cons (.k (.str ("" : Str))) (.cons (.tup .nil) .nil))) (.cons (.tup (.cons (.tup (.cons (.v 4) (.cons (.v 7) .nil))) (.cons (.tup (.cons (.k (.int 0)) .nil)) .nil))) (.cons (.tup (.cons (.tup (.cons (.v 4) (.cons (.v 3) .nil))) (.cons (.tup (.cons (.k (.int 0)) .nil)) .nil))) (.cons (.tup (.cons (.tup (.cons (.v 4) (.cons (.k .non) .nil))) (.cons (.tup (.cons (.k (.int 0)) .nil)) .nil))) .nil))))))))))
    (.cons (.set (.nm 5) (.op .add (.v 5) (.lst (.cons (.tup (.cons (.tup (.cons (.v 6) (.cons (.bi .list (.cons (.v 7) .nil)) .nil))) (.cons (.tup (.cons (.k (.int 1)) .nil)) .nil))) (.cons (.tup (.cons (.tup (.cons (.v 6) (.cons (.k .non) .nil))) (.cons (.tup (.cons (.k (.int 1)) .nil)) .nil))) (.cons (.tup (.cons (.tup (.cons (.v 6) (.cons (.k (.str ("rules" : Str))) .nil))) (.cons (.tup (.cons (.k (.int 1)) .nil)) .nil))) (.cons (.tup (.cons (.tup (.cons (.v 6) (.cons (.op .add (.v 3) (.tup (.cons (.k .non) .nil))) .nil))) (.cons (.tup (.cons (.k (.int 1)) (.cons (.v 2) .nil))) .nil))) .nil)))))))
    (.cons (.ret (.call 18 (.cons (.v 0) (.cons (.op .add (.v 5) (.op .mul (.lst (.cons (.tup (.cons (.tup (.cons (.v 6) (.cons (.v 3) .nil))) (.cons (.tup (.cons (.k (.int 1)) (.cons (.v 2) .nil))) .nil))) .nil)) (.k (.int 8)))) .nil)) [] .nil))
    .nil))))
theorem p_listT {xs : List D} (hl : xs.length ≤ 1000) (h : ok (.loc G.length) (G ++ [.lst xs])) : Post (biD .list [.tup xs]) G ok ex := by
  show Post (getS (.tup xs) >>= newL) G ok ex
  rw [p_bind]
  exact p_getS_tup.mpr (p_newL.mpr ⟨sz hl, h⟩)
theorem bent_rest {s a : Nat} {js : List Int} {rs later : List D} {okF : Fl → GH → Prop} (hs : SrcAt s G) (hd' : DefOk js rs) (hW : Wz G 22 (.tup later)) (hl : later.length ≤ 6) (ha : a ≤ 4) (hf : ∀ r2, faultD (.tup [hdsD js, .tup (later ++ r2)]) = .tup [.int 1, .int a])
    (h : ∀ bent part G', Bad G' bent → faultD bent = part → PartOk part → SrcAt s G' → okF (.rt (.tup [bent, part])) G') :
    Post (denSs (callN prg (n + 3)) BWb [some (.loc s), some (.tup [hdsD js, .tup rs]), some (.int (a : Nat)), some (.tup later), none, none, some (hdsD js), some (.tup rs)]) G okF ex := by
  have hj := hd'.hd
  have jl := hj.len
  have rl := hd'.len
  have rp := hd'.pos
  have szj : ∀ {y : D}, (js.map D.int ++ [y]).length ≤ sizeLine := fun {y} => sz (by simp; omega)
  unfold BWb hdsD
  walk_at "oc hd"
  refine p_listT (by simp; omega) ?_
  walk_at "oc hd"
  repeat (first | (with_reducible refine And.intro (sz (by decide)) ?_; walk_at "oc hd") | (refine p_addT.mpr (And.intro szj ?_); walk_at "oc hd"))
  refine s_pick hb (hs.app.app) get1 (by have := hs.lt; simp; omega) (by simp) (by simp) fun wrong hw G2 hs2 k2 => ?_
  have hwz : WrongOk G2 wrong := by
    simp only [List.mem_cons, List.not_mem_nil, or_false] at hw
    have non : ∀ {w : D}, Wz G2 22 w → (∀ hs, w ≠ .tup hs) → WrongOk G2 w := fun {w} h1 h2 => ⟨h1, fun r => by cases w <;> first | rfl | exact absurd rfl (h2 _)⟩
    rcases hw with rfl | rfl | rfl | rfl | rfl | rfl | rfl | rfl
    · refine non (Wz.kp hs.app.app hs2 k2 (wz_loc (xs := js.map D.int) (by walk_at "oc gt") fun x hx => ?_)) (by intro hs e; cases e)
      obtain ⟨j, _, rfl⟩ := List.mem_map.mp hx; exact wz_int
    · exact wrong_tup hj wz_int rfl
    · exact wrong_tup hj wz_bl rfl
    · exact non wz_non (by intro hs e; cases e)
    · exact non wz_str (by intro hs e; cases e)
    · exact wrong_tup hj (wz_tup (by decide) (wzs_cons wz_int wzs_nil)) rfl
    · exact non wz_int (by intro hs e; cases e)
    · exact wrong_tup hj wz_non rfl
  have szl : (later ++ [D.non]).length ≤ sizeLine := sz (by rw [List.length_append]; show later.length + 1 ≤ 1000; omega)
  walk_at "oc hd"
  repeat (first | (with_reducible refine And.intro (sz (by decide)) ?_; walk_at "oc hd") | (refine p_addT.mpr (And.intro szl ?_); walk_at "oc hd") | (refine p_addT.mpr (And.intro (sz (by simp)) ?_); walk_at "oc hd") | (refine p_listT (by simp) ?_; walk_at "oc hd") | (refine p_listT (by omega) ?_; walk_at "oc hd"))
  refine (p_addL (by walk_at "oc gt") (by walk_at "oc gt")).mpr (And.intro (sz (by simp)) ?_)
  walk_at "oc hd"
  repeat (with_reducible refine And.intro (sz (by decide)) ?_; walk_at "oc hd")
  refine p_mulL1 get1 (by omega) ?_
  walk_at "oc hd"
  refine (p_addL (by walk_at "oc gt") (by walk_at "oc gt")).mpr (And.intro (sz (by simp [rep_len])) ?_)
  walk_at "oc hd"
  refine s_pick hb (hs2.app.app.app.app.app.app.app.app) get1 (by have := hs2.lt; simp only [List.length_append, List.length_cons, List.length_nil]; omega) (by simp) (by simp [rep_len]) fun one hone G3 hs3 k3 => ?_
  have key : ∃ bent part, one = .tup [bent, part] ∧ Wz G3 23 bent ∧ faultD bent = part ∧ PartOk part := by
    have up : ∀ {j : Nat} {d : D}, Wz G2 j d → Wz G3 j d := fun h => Wz.kp (hs2.app.app.app.app.app.app.app.app) hs3 k3 h.app.app.app.app.app.app.app.app
    have w1 : Wz G3 22 wrong := up hwz.1
    have w2 := hwz.2
    have wl : Wz G3 22 (.tup later) := up (Wz.kp hs.app.app hs2 k2 hW.app.app)
    have wh : Wz G3 22 (.tup (js.map D.int)) := ((hds_gd hj (k := 8)).tup.wz (by decide) (by decide))
    have wrs : ∀ x ∈ rs, Wz G3 20 x := fun x hx => ((hd'.rl x hx).gd jl).wz (by decide) (by decide)
    have wr : Wz G3 21 (.tup rs) := wz_tup (by omega) wrs
    have wln : Wz G3 22 (.tup (later ++ [.non])) := wz_tup (by rw [List.length_append]; show later.length + 1 ≤ 1000; omega) fun x hx => by
      rcases List.mem_append.mp hx with hx | hx
      · exact wl.mem x hx
      · rw [List.mem_singleton.mp hx]; exact wz_non
    have p0 : PartOk (.tup []) := ⟨[], rfl, by decide, by simp⟩
    have pz : PartOk (.tup [.int 0]) := ⟨[0], rfl, by decide, by simp⟩
    have p1 : PartOk (.tup [.int 1]) := ⟨[1], rfl, by decide, by simp⟩
    have pa : PartOk (.tup [.int 1, .int (a : Nat)]) := ⟨[1, (a : Nat)], rfl, by simp, by intro j hj; simp at hj; omega⟩
    have two : ∀ {x y : D}, Wz G3 22 x → Wz G3 22 y → Wz G3 23 (.tup [x, y]) := fun h1 h2 => wz_tup (by simp) (wzs_cons h1 (wzs_cons h2 wzs_nil))
    have hsl := hs2.lt
    have fr : ∀ {r : D}, faultD (.tup [.tup (js.map D.int), r]) = rulesF js r := fun {r} => fault_rules hj
    have ff : ∀ r2, faultD (.tup [.tup (js.map D.int), .tup (later ++ r2)]) = .tup [.int 1, .int (a : Nat)] := hf
    simp only [List.cons_append, List.nil_append, List.mem_cons, List.not_mem_nil, or_false] at hone
    rcases hone with rfl | rfl | rfl | rfl | rfl | rfl | rfl | rfl | rfl | rfl | rfl | rfl | hone
    · exact ⟨_, _, rfl, wz_tup (by simp) (wzs_cons wh wzs_nil), rfl, p0⟩
    · exact ⟨_, _, rfl, wz_tup (by simp) (wzs_cons wh (wzs_cons (wr.up (by decide)) (wzs_cons wz_int wzs_nil))), rfl, p0⟩
    · exact ⟨_, _, rfl, wz_loc (k3.get (by walk_at "oc gt") (by omega)) (wzs_cons wh (wzs_cons (wr.up (by decide)) wzs_nil)), rfl, p0⟩
    · exact ⟨_, _, rfl, wz_non, rfl, p0⟩
    · exact ⟨_, _, rfl, wz_str, rfl, p0⟩
    · exact ⟨_, _, rfl, two w1 (wr.up (by decide)), w2 _, pz⟩
    · exact ⟨_, _, rfl, two w1 wl, w2 _, pz⟩
    · exact ⟨_, _, rfl, two w1 wz_non, w2 _, pz⟩
    · refine ⟨_, _, rfl, two wh (wz_loc (k3.get (by walk_at "oc gt") (by simp only [List.length_append, List.length_cons, List.length_nil]; omega)) (fun x hx => (wrs x hx).up (by decide))), ?_, p1⟩
      rw [fr]; rfl
    · refine ⟨_, _, rfl, two wh wz_non, ?_, p1⟩
      rw [fr]; rfl
    · refine ⟨_, _, rfl, two wh wz_str, ?_, p1⟩
      rw [fr]; rfl
    · exact ⟨_, _, rfl, two wh wln, ff [.non], pa⟩
    · obtain rfl := rep_mem hone
      refine ⟨_, _, rfl, two wh wl, ?_, pa⟩
      have := ff []
      rwa [List.append_nil] at this
  obtain ⟨bent, part, rfl, b1, b2, b3⟩ := key
  exact h bent part G3 (b3.bad b2 b1) b2 b3 hs3
theorem s_bent {s : Nat} {js : List Int} {rs : List D} (hs : SrcAt s G) (hd' : DefOk js rs) (h : ∀ bent part G', Bad G' bent → faultD bent = part → PartOk part → SrcAt s G' → ok (.tup [bent, part]) G') :
    Post (callN prg (n + 4) 84 [.loc s, .tup [hdsD js, .tup rs]]) G ok ex := by
  rw [p_call (fn := f__law_bent) rfl rfl]
  unfold f__law_bent
  walk_at "oc stt"
  have hj := hd'.hd
  have jl := hj.len
  have rl := hd'.len
  have rp := hd'.pos
  have hd84 : hdsD js = .tup (js.map D.int) := rfl
  walk_at "oc hd"
  refine s_draw hb hs (by omega) (by omega) fun at' G1 a0 a1 hs1 k1 => ?_
  obtain ⟨a, rfl⟩ : ∃ a : Nat, at' = a := ⟨at'.toNat, by omega⟩
  obtain ⟨r0, rest, rfl⟩ : ∃ r0 rest, rs = r0 :: rest := by
    cases rs with
    | nil => simp at rp
    | cons x y => exact ⟨x, y, rfl⟩
  have hr0 := hd'.rl r0 List.mem_cons_self
  obtain ⟨head, nm, body, er, c1, c2, c3, c4, c5, c6, c7⟩ := hr0
  have ha : a ≤ (r0 :: rest).length := by omega
  walk_at "oc hd"
  refine p_sl_tup.mpr ?_
  rw [(cut_split ha).1]
  walk_at "oc hd"
  rw [er]
  refine s_odd (n := n + 2) hj c1 c2 c3 c4 c5 c6 c7 fun xs t p hp0 hp hx0 hx1 hxs => ?_
  rw [← er]
  walk_at "oc hd"
  refine s_pick hb hs1.app hp (by have := hs1.lt; omega) hx0 (by omega) fun odd hodd G4 hs4 k4 => ?_
  obtain ⟨w1, w2⟩ := hxs odd hodd
  have w1 := w1.kp hs1.app hs4 k4
  have hL : ((r0 :: rest).take a).length = a ∧ ((r0 :: rest).drop a).length ≤ 4 - a := by
    rw [List.length_take, List.length_drop]; omega
  obtain ⟨tk, etk⟩ : ∃ l, l = (r0 :: rest).take a := ⟨_, rfl⟩
  obtain ⟨dr, edr⟩ : ∃ l, l = (r0 :: rest).drop a := ⟨_, rfl⟩
  rw [← etk, ← edr] at hL
  rw [← etk]
  walk_at "oc hd"
  refine And.intro (sz (by decide)) ?_
  refine p_addT.mpr (And.intro (sz (by rw [List.length_append]; show tk.length + 1 ≤ 1000; omega)) ?_)
  walk_at "oc hd"
  refine p_sl_tup.mpr ?_
  rw [(cut_split ha).2, ← edr]
  walk_at "oc hd"
  refine p_addT.mpr (And.intro (sz (by rw [List.length_append, List.length_append]; show tk.length + 1 + dr.length ≤ 1000; omega)) ?_)
  walk_at "oc hdc"
  have hrs : ∀ x ∈ (r0 :: rest), ruleB js x = true ∧ Wz G4 21 x := fun x hx => ⟨(hd'.rl x hx).b, ((hd'.rl x hx).gd jl).wz (by decide) (by decide)⟩
  refine bent_rest (a := a) hs4 hd' ?_ ?_ (by omega) ?_ fun bent part G' b1 b2 b3 b4 => ?_
  · refine wz_tup (by rw [List.length_append, List.length_append]; show tk.length + 1 + dr.length ≤ 1000; omega) fun x hx => ?_
    rcases List.mem_append.mp hx with hx | hx
    · rcases List.mem_append.mp hx with hx | hx
      · rw [etk] at hx; exact (hrs x (List.mem_of_mem_take hx)).2
      · rw [List.mem_singleton.mp hx]; exact w1
    · rw [edr] at hx; exact (hrs x (List.mem_of_mem_drop hx)).2
  · rw [List.length_append, List.length_append]; show tk.length + 1 + dr.length ≤ 6; omega
  · intro r2
    rw [fault_rules hj]
    simp only [rulesF]
    have ht : ∀ r ∈ tk, ruleB js r = true := fun r hr => by rw [etk] at hr; exact (hrs r (List.mem_of_mem_take hr)).1
    rw [show tk ++ [odd] ++ dr ++ r2 = tk ++ odd :: (dr ++ r2) by simp, find_at ht w2, hL.1]
  · exact h bent part G' b1 b2 b3 b4
end
end OC

namespace OC
open PySem PySem.Spec PyProof.Rows L2
section
variable {n : Nat} {G : GH} {ok : D → GH → Prop} {ex : Str → Option D → GH → Prop}
theorem reo1 {d : D} : reorder [0] ([] : List D) [d] = some [d] := rfl
theorem s_right {s : Nat} (hs : SrcAt s G) (h : ∀ G', ok (.bl true) G') : Post (callN prg (n + 32) 85 [.loc s]) G ok ex := by
  rw [p_call (fn := f__law_right) rfl rfl]
  unfold f__law_right
  walk_at "oc stt"
  walk_at "oc hd"
  refine s_constantsZ hb (n := n + 28) (m := 2) (by decide) hs fun ds G1 hz hl hs1 k1 => ?_
  walk_at "oc hd"
  refine s_defining (n := n + 22) hz (by omega) hs1 fun js rs G2 hd' hs2 => ?_
  have vz : ∀ {G : GH}, Wz G 23 (.tup [hdsD js, .tup rs]) := hd'.gd.wz (by decide) (by decide)
  have ef := hd'.ok
  obtain ⟨v, ev⟩ : ∃ v, v = D.tup [hdsD js, .tup rs] := ⟨_, rfl⟩
  have hg : Gd 240 10 v := by rw [ev]; exact hd'.gd
  rw [← ev]
  rw [← ev] at ef vz
  walk_at "oc hd"
  refine p_repr hg (by decide) (by decide) ?_
  walk_at "oc hd"
  refine s_fault (n := n + 3) vz fun t => ?_
  rw [ef]
  walk_at "oc hd"
  refine p_isnN.mpr ?_
  rw [show (!isNon D.non) = false from rfl]
  walk_at "oc hd"
  refine s_is_def (n := n + 2) vz fun t2 => ?_
  rw [ef]
  rw [show isNon D.non = true from rfl]
  walk_at "oc hd"
  refine p_isnB.mpr ?_
  rw [show (!decide (true = true)) = false from rfl]
  walk_at "oc hd"
  refine And.intro (Nat.zero_le _) ?_
  walk_at "oc hd"
  refine And.intro (Nat.zero_le _) ?_
  walk_at "oc hd"
  refine And.intro (sz (by decide)) ?_
  walk_at "oc hd"
  refine s_fault (n := n + 3) (wz_tup (k := 22) (by decide) (wzs_cons (wz_tup (k := 21) (by decide) wzs_nil) (wzs_cons (wz_tup (k := 21) (by decide) wzs_nil) wzs_nil))) fun t3 => ?_
  rw [show faultD (.tup [.tup [], .tup []]) = .non from rfl]
  walk_at "oc hd"
  refine same_non hb (n + 30) _ _ _ fun t4 => ?_
  dsimp only
  rw [show (!true) = false from rfl]
  walk_at "oc hd"
  refine And.intro (by decide) ?_
  have hs3 : SrcAt s (G2 ++ t ++ t2 ++ t3 ++ t4) := hs2.app.app.app.app
  refine loop_go (fun i σ G' => (∃ a b c, σ = [some (.loc s), some v, some (.str (py v).shown), a, b, c]) ∧ SrcAt s G') ⟨⟨_, _, _, rfl⟩, hs3⟩ ?_ ?_
  · rintro i x σ G' hi ⟨⟨a, b, c, rfl⟩, i1⟩
    refine ⟨rfl, ?_⟩
    dsimp only [assignT, List.set_cons_zero, List.set_cons_succ]
    walk_at "oc hd"
    rw [ev]
    refine s_bent (n := n + 27) i1 hd' fun bent part G3 b1 b2 b3 hs4 => ?_
    rw [← ev]
    walk_at "oc hd"
    rw [reo1]
    walk_at "oc hd"
    refine s_fault (n := n + 3) b1.wz fun t5 => ?_
    rw [b2]
    walk_at "oc hd"
    refine b3.same (n + 29) _ _ _ fun t6 => ?_
    dsimp only
    rw [show (!true) = false from rfl]
    walk_at "oc hd"
    rw [reo1]
    walk_at "oc hd"
    refine s_is_def (n := n + 2) b1.wz.app.app fun t7 => ?_
    rw [b1.no]
    walk_at "oc hd"
    refine p_isnB.mpr ?_
    rw [show (!decide (false = false)) = false from rfl]
    walk_at "oc hd"
    refine s_draw hb hs4.app.app.app (by decide) (by decide) fun w G4 w0 w1 hs5 k5 => ?_
    walk_at "oc hd"
    refine s_caught (n := n) ⟨w0, w1⟩ ((PartOk.bad b3 b2 (b1.wz.app.app.app.kp hs4.app.app.app hs5 k5))) fun t8 => ?_
    rw [b2]
    walk_at "oc hd"
    refine b3.same (n + 29) _ _ _ fun t9 => ?_
    dsimp only
    rw [show (!true) = false from rfl]
    walk_at "oc hd"
    exact ⟨⟨_, _, _, rfl⟩, hs5.app.app⟩
  · rintro σ G' ⟨⟨a, b, c, rfl⟩, i1⟩
    refine ⟨rfl, ?_⟩
    walk_at "oc hd"
    refine p_repr hg (by decide) (by decide) ?_
    walk_at "oc hd"
    refine p_eqStr ?_
    exact h _
end
end OC

namespace OC
open PySem PySem.Spec PyProof.Rows L2
theorem fitsP_ok {i j : Int} (h0 : 0 ≤ j) (h1 : j ≤ 1000000) (h2 : i.natAbs < 2 ^ 64) : fitsP i j := ⟨h0, h1, h2⟩
theorem fits_lt {i : Int} (h : i.natAbs < 2 ^ 700) : fits i := Nat.lt_of_lt_of_le h (Nat.pow_le_pow_right (by decide) (by unfold bigBits; decide))
theorem ints_map : ∀ ms : List Int, ints? (ms.map D.int) = some ms
  | [] => rfl
  | m :: ms => by show (ints? _).map _ = _; rw [ints_map ms]; rfl
theorem cut_ints {ns : List Int} {lo hi : Option Int} : ∃ ms : List Int, cutD (ns.map D.int) lo hi = ms.map D.int := by
  unfold cutD
  rw [← List.map_drop, ← List.map_take]
  exact ⟨_, rfl⟩
section
variable {n : Nat} {G : GH} {ok : D → GH → Prop} {ex : Str → Option D → GH → Prop}
theorem s_source {ns : List Int} (hl : ns.length ≤ 63) {at' : Int} (ha : 0 ≤ at') (h : ∀ l G', SrcAt l G' → ok (.loc l) G') : Post (callN prg (n + 1) 16 [.frz (ns.map D.int), .int at']) G ok ex := by
  rw [p_call (fn := f__law_source) rfl rfl]
  unfold f__law_source
  walk_at "oc stt"
  walk_at "oc hd"
  refine p_getS_frz.mpr ?_
  walk_at "oc hd"
  by_cases hc : at' < ((ns.map D.int).length : Int)
  · rw [decide_eq_true hc]
    walk_at "oc hd"
    refine p_getS_frz.mpr ?_
    obtain ⟨d, hdm, e⟩ := atI_lt ha hc
    obtain ⟨z, _, rfl⟩ := List.mem_map.mp hdm
    rw [e]
    walk_at "oc hd"
    refine p_abs.mpr ?_
    (walk_at "oc hd"; (refine p_pow.mpr ⟨fitsP_ok (by decide) (by decide) (by decide), ?_⟩); walk_at "oc hd"; (refine p_pow.mpr ⟨fitsP_ok (by decide) (by decide) (by decide), ?_⟩); walk_at "oc hd"; (· exact .inr (.inr ⟨fits_lt (by decide +kernel), fits_lt (by decide +kernel)⟩)); walk_at "oc hd"; (refine p_pow.mpr ⟨fitsP_ok (by decide) (by decide) (by decide), ?_⟩); walk_at "oc hd"; (· exact .inr (.inr ⟨fits_lt (by decide +kernel), fits_lt (by decide +kernel)⟩)); walk_at "oc hd"; (refine p_pow.mpr ⟨fitsP_ok (by decide) (by decide) (by decide), ?_⟩); walk_at "oc hd"; (· exact .inr (.inr ⟨fits_lt (by decide +kernel), fits_lt (by decide +kernel)⟩)); refine p_mod.mpr ⟨by decide +kernel, ?_⟩; walk_at "oc hd"; (refine p_pow.mpr ⟨fitsP_ok (by decide) (by decide) (by decide), ?_⟩); walk_at "oc hd")
    generalize (if z < 0 then -z else z) % (10 ^ Int.toNat 60 * 10 ^ Int.toNat 60 * 10 ^ Int.toNat 60 * 10 ^ Int.toNat 60) = c1
    by_cases hc : (10 : Int) ^ Int.toNat 18 ≤ c1
    · rw [decide_eq_true hc]
      walk_at "oc hd"
      ((refine p_pow.mpr ⟨fitsP_ok (by decide) (by decide) (by decide), ?_⟩); walk_at "oc hd"; refine p_mod.mpr ⟨by decide +kernel, ?_⟩; walk_at "oc hd"; (· exact small_mul_l (by decide)); walk_at "oc hd"; refine ⟨sz (by simp), ?_⟩)
      exact h _ _ ⟨_, _, _, get1⟩
    · rw [decide_eq_false hc]
      walk_at "oc hd"
      ((refine p_pow.mpr ⟨fitsP_ok (by decide) (by decide) (by decide), ?_⟩); walk_at "oc hd"; refine p_mod.mpr ⟨by decide +kernel, ?_⟩; walk_at "oc hd"; (· exact small_mul_l (by decide)); walk_at "oc hd"; refine ⟨sz (by simp), ?_⟩)
      exact h _ _ ⟨_, _, _, get1⟩
  · rw [decide_eq_false hc]
    walk_at "oc hd"
    · exact small_mul_l (by decide)
    walk_at "oc hd"
    obtain ⟨ms, em⟩ := cut_ints (ns := ns) (lo := none) (hi := some 63)
    refine p_sl_frz.mpr ⟨sz (Nat.le_trans cut_len (by simp; omega)), ?_⟩
    rw [em]
    walk_at "oc hd"
    refine (p_getL_loc get1).mpr ?_
    rw [ints_map]
    walk_at "oc hd"
    · exact small_mul_r (by decide)
    walk_at "oc hd"
    (refine p_pow.mpr ⟨fitsP_ok (by decide) (by decide) (by decide), ?_⟩)
    walk_at "oc hd"
    refine p_mod.mpr ⟨by decide +kernel, ?_⟩
    generalize ms.sum * 7919 % (10 ^ Int.toNat 9 + 7) = z
    (walk_at "oc hd"; (refine p_pow.mpr ⟨fitsP_ok (by decide) (by decide) (by decide), ?_⟩); walk_at "oc hd"; (refine p_pow.mpr ⟨fitsP_ok (by decide) (by decide) (by decide), ?_⟩); walk_at "oc hd"; (· exact .inr (.inr ⟨fits_lt (by decide +kernel), fits_lt (by decide +kernel)⟩)); walk_at "oc hd"; (refine p_pow.mpr ⟨fitsP_ok (by decide) (by decide) (by decide), ?_⟩); walk_at "oc hd"; (· exact .inr (.inr ⟨fits_lt (by decide +kernel), fits_lt (by decide +kernel)⟩)); walk_at "oc hd"; (refine p_pow.mpr ⟨fitsP_ok (by decide) (by decide) (by decide), ?_⟩); walk_at "oc hd"; (· exact .inr (.inr ⟨fits_lt (by decide +kernel), fits_lt (by decide +kernel)⟩)); refine p_mod.mpr ⟨by decide +kernel, ?_⟩; walk_at "oc hd"; (refine p_pow.mpr ⟨fitsP_ok (by decide) (by decide) (by decide), ?_⟩); walk_at "oc hd")
    generalize (73 * at' + 46 + z) % (10 ^ Int.toNat 60 * 10 ^ Int.toNat 60 * 10 ^ Int.toNat 60 * 10 ^ Int.toNat 60) = c1
    by_cases hc : (10 : Int) ^ Int.toNat 18 ≤ c1
    · rw [decide_eq_true hc]
      walk_at "oc hd"
      ((refine p_pow.mpr ⟨fitsP_ok (by decide) (by decide) (by decide), ?_⟩); walk_at "oc hd"; refine p_mod.mpr ⟨by decide +kernel, ?_⟩; walk_at "oc hd"; (· exact small_mul_l (by decide)); walk_at "oc hd"; refine ⟨sz (by simp), ?_⟩)
      exact h _ _ ⟨_, _, _, get1⟩
    · rw [decide_eq_false hc]
      walk_at "oc hd"
      ((refine p_pow.mpr ⟨fitsP_ok (by decide) (by decide) (by decide), ?_⟩); walk_at "oc hd"; refine p_mod.mpr ⟨by decide +kernel, ?_⟩; walk_at "oc hd"; (· exact small_mul_l (by decide)); walk_at "oc hd"; refine ⟨sz (by simp), ?_⟩)
      exact h _ _ ⟨_, _, _, get1⟩
theorem PL (ns : List Int) (hl : ns.length ≤ 63) : Post (callN prg (39 + 1) 86 [.frz (ns.map D.int)]) [] (fun d _ => d = .bl true) noex := by
  rw [p_call (fn := f_law) rfl rfl]
  unfold f_law
  walk_at "oc stt"
  walk_at "oc hd"
  refine p_getS_frz.mpr ?_
  walk_at "oc hd"
  refine p_min.mpr ?_
  walk_at "oc hd"
  refine p_max.mpr ?_
  walk_at "oc hd"
  have hm : small (if (if (((ns.map D.int).length : Nat) : Int) < 5 then (((ns.map D.int).length : Nat) : Int) else 5) > 2 then (if (((ns.map D.int).length : Nat) : Int) < 5 then (((ns.map D.int).length : Nat) : Int) else 5) else 2) := by
    constructor <;> (split <;> (try split) <;> omega)
  refine ⟨hm, ?_⟩
  refine loop_go (fun i σ G' => ∃ t, σ = [some (.frz (ns.map D.int)), t]) ⟨_, rfl⟩ ?_ ?_
  · rintro i x σ G' hi ⟨t, rfl⟩
    refine ⟨rfl, ?_⟩
    obtain ⟨j, rfl, j0, j1⟩ := rng_mem (List.mem_of_getElem? hi)
    dsimp only [assignT, List.set_cons_zero, List.set_cons_succ]
    walk_at "oc hd"
    refine s_source hl j0 fun l G1 hs => ?_
    walk_at "oc hd"
    refine s_right (n := 7) hs fun G2 => ?_
    dsimp only
    rw [show (!true) = false from rfl]
    walk_at "oc hd"
    exact ⟨_, rfl⟩
  · rintro σ G' ⟨t, rfl⟩
    refine ⟨rfl, ?_⟩
    walk_at "oc hd"
end
end OC

namespace OC
open PySem PySem.Spec PyProof.Rows L2
def topS (i : Nat) : Stmt := PySem.Challenge.pw_onlycompared_k90_definings_judged.main.body.getD i (.Pass ⟨0, 0, 0, 0⟩)
def stsL : List Stmt := [topS 5, topS 6, topS 7, topS 8, topS 5, topS 10, topS 17, topS 5, topS 5, topS 5, topS 5, topS 5, topS 5, topS 5, topS 5, topS 5, topS 67, topS 68, topS 69, topS 70, topS 71, topS 72, topS 73, topS 74, topS 75, topS 5, topS 5, topS 5, topS 5, topS 5, topS 5, topS 5, topS 11, topS 12, topS 13, topS 14, topS 15, topS 16, topS 18, topS 19, topS 20, topS 21, topS 23, topS 24, topS 25, topS 26, topS 27, topS 28, topS 29, topS 30, topS 31, topS 32, topS 33, topS 34, topS 35, topS 36, topS 38, topS 39, topS 40, topS 43, topS 44, topS 45, topS 46, topS 51, topS 52, topS 53, topS 54, topS 55, topS 56, topS 57, topS 58, topS 59, topS 60, topS 61, topS 62, topS 63, topS 64, topS 65, topS 76, topS 77, topS 78, topS 79, topS 80, topS 81, topS 82, topS 83, topS 84]
def tab : Tab := { fns := prg.map (fun f => (f.name, f.params)), gls := [("YES", (.tup [(.str ("yes" : Str))])), ("CALL", (.str ("call" : Str))), ("LISTS", (.tup [(.str ("both" : Str)), (.str ("either" : Str))])), ("QUANTIFIERS", (.tup [(.str ("some" : Str)), (.str ("all" : Str))]))], kds := [], excs := xcs, kws := [(67, 0, [0]), (66, 0, [0])], exf := [("InvalidDefining", "part")] }
theorem pbi_InvalidDefining (qual : Str) (kV doc pm : Value) (an : Option Addr) (cdv ct : Value) (us : List Value) (hl : us.length = 2) : bindArgs (PySem.W.fnOf "__init__" qual (defArgs (initS (topS 3))) (defBody (initS (topS 3))) (defScope (initS (topS 3))) .none kV doc pm an cdv ct) ⟨us, []⟩ = pure ((["self", "part"] : List Str).zip us) := match us, hl with | [_, _], _ => rfl
theorem cki_InvalidDefining : ckInit "part" "CompareError" (initS (topS 3)) = true := by decide +kernel
theorem ck_is_integer : ckFn tab f_is_integer (topS 5) = true := by decide +kernel
theorem ck_is_from : ckFn tab f_is_from (topS 6) = true := by decide +kernel
theorem ck_is_below : ckFn tab f_is_below (topS 7) = true := by decide +kernel
theorem ck_is_tuple : ckFn tab f_is_tuple (topS 8) = true := by decide +kernel
theorem ck_is_number : ckFn tab f_is_number (topS 10) = true := by decide +kernel
theorem ck_lowest : ckFn tab f_lowest (topS 11) = true := by decide +kernel
theorem ck_plus_in : ckFn tab f_plus_in (topS 12) = true := by decide +kernel
theorem ck_minus_in : ckFn tab f_minus_in (topS 13) = true := by decide +kernel
theorem ck_times_in : ckFn tab f_times_in (topS 14) = true := by decide +kernel
theorem ck_over_in : ckFn tab f_over_in (topS 15) = true := by decide +kernel
theorem ck_in_sequence : ckFn tab f_in_sequence (topS 16) = true := by decide +kernel
theorem ck_ahead : ckFn tab f_ahead (topS 17) = true := by decide +kernel
theorem ck_is_term : ckFn tab f_is_term (topS 18) = true := by decide +kernel
theorem ck_term_worth : ckFn tab f_term_worth (topS 19) = true := by decide +kernel
theorem ck_together : ckFn tab f_together (topS 20) = true := by decide +kernel
theorem ck_middle_in : ckFn tab f_middle_in (topS 21) = true := by decide +kernel
theorem ck_pairs_below : ckFn tab f_pairs_below (topS 23) = true := by decide +kernel
theorem ck_heights : ckFn tab f_heights (topS 24) = true := by decide +kernel
theorem ck_raised : ckFn tab f_raised (topS 25) = true := by decide +kernel
theorem ck_extended : ckFn tab f_extended (topS 26) = true := by decide +kernel
theorem ck_cells_in : ckFn tab f_cells_in (topS 27) = true := by decide +kernel
theorem ck_slot_of : ckFn tab f_slot_of (topS 28) = true := by decide +kernel
theorem ck_cell_in : ckFn tab f_cell_in (topS 29) = true := by decide +kernel
theorem ck_number_at : ckFn tab f_number_at (topS 30) = true := by decide +kernel
theorem ck_sample_in : ckFn tab f_sample_in (topS 31) = true := by decide +kernel
theorem ck_ways_in : ckFn tab f_ways_in (topS 32) = true := by decide +kernel
theorem ck_renamed_pairs : ckFn tab f_renamed_pairs (topS 33) = true := by decide +kernel
theorem ck_finer_in : ckFn tab f_finer_in (topS 34) = true := by decide +kernel
theorem ck_coarser_in : ckFn tab f_coarser_in (topS 35) = true := by decide +kernel
theorem ck_candidates : ckFn tab f_candidates (topS 36) = true := by decide +kernel
theorem ck_finer_table_in : ckFn tab f_finer_table_in (topS 38) = true := by decide +kernel
theorem ck_left_out : ckFn tab f_left_out (topS 39) = true := by decide +kernel
theorem ck_least_in : ckFn tab f_least_in (topS 40) = true := by decide +kernel
theorem ck_is_formula_in : ckFn tab f_is_formula_in (topS 43) = true := by decide +kernel
theorem ck_parts_of : ckFn tab f_parts_of (topS 44) = true := by decide +kernel
theorem ck_numbers_in : ckFn tab f_numbers_in (topS 45) = true := by decide +kernel
theorem ck_true_by : ckFn tab f_true_by (topS 46) = true := by decide +kernel
theorem ck_is_call : ckFn tab f_is_call (topS 51) = true := by decide +kernel
theorem ck_is_body : ckFn tab f_is_body (topS 52) = true := by decide +kernel
theorem ck_is_rule : ckFn tab f_is_rule (topS 53) = true := by decide +kernel
theorem ck_defining_fault : ckFn tab f_defining_fault (topS 54) = true := by decide +kernel
theorem ck_is_defining : ckFn tab f_is_defining (topS 55) = true := by decide +kernel
theorem ck_check_defining : ckFn tab f_check_defining (topS 56) = true := by decide +kernel
theorem ck_numbers_of : ckFn tab f_numbers_of (topS 57) = true := by decide +kernel
theorem ck_constants_of : ckFn tab f_constants_of (topS 58) = true := by decide +kernel
theorem ck_body_holds : ckFn tab f_body_holds (topS 59) = true := by decide +kernel
theorem ck_steps_in : ckFn tab f_steps_in (topS 60) = true := by decide +kernel
theorem ck_taken_on : ckFn tab f_taken_on (topS 61) = true := by decide +kernel
theorem ck_grown_lots : ckFn tab f_grown_lots (topS 62) = true := by decide +kernel
theorem ck_least_tables : ckFn tab f_least_tables (topS 63) = true := by decide +kernel
theorem ck_rounds : ckFn tab f_rounds (topS 64) = true := by decide +kernel
theorem ck_satisfy : ckFn tab f_satisfy (topS 65) = true := by decide +kernel
theorem ck__law_source : ckFn tab f__law_source (topS 67) = true := by decide +kernel
theorem ck__law_draw : ckFn tab f__law_draw (topS 68) = true := by decide +kernel
theorem ck__law_pick : ckFn tab f__law_pick (topS 69) = true := by decide +kernel
theorem ck__law_same : ckFn tab f__law_same (topS 70) = true := by decide +kernel
theorem ck__law_ahead : ckFn tab f__law_ahead (topS 71) = true := by decide +kernel
theorem ck__law_low : ckFn tab f__law_low (topS 72) = true := by decide +kernel
theorem ck__law_sorted : ckFn tab f__law_sorted (topS 73) = true := by decide +kernel
theorem ck__law_number : ckFn tab f__law_number (topS 74) = true := by decide +kernel
theorem ck__law_constants : ckFn tab f__law_constants (topS 75) = true := by decide +kernel
theorem ck__law_term : ckFn tab f__law_term (topS 76) = true := by decide +kernel
theorem ck__law_formula : ckFn tab f__law_formula (topS 77) = true := by decide +kernel
theorem ck__law_body : ckFn tab f__law_body (topS 78) = true := by decide +kernel
theorem ck__law_defining : ckFn tab f__law_defining (topS 79) = true := by decide +kernel
theorem ck__law_caught : ckFn tab f__law_caught (topS 80) = true := by decide +kernel
theorem ck__law_odd_rules : ckFn tab f__law_odd_rules (topS 81) = true := by decide +kernel
theorem ck__law_bent : ckFn tab f__law_bent (topS 82) = true := by decide +kernel
theorem ck__law_right : ckFn tab f__law_right (topS 83) = true := by decide +kernel
theorem ck_law : ckFn tab f_law (topS 84) = true := by decide +kernel
theorem pb_is_integer : PosB f_is_integer (topS 5) := fun _ _ _ _ _ _ us hl => match us, hl with | [_], _ => rfl
theorem pb_is_from : PosB f_is_from (topS 6) := fun _ _ _ _ _ _ us hl => match us, hl with | [_, _], _ => rfl
theorem pb_is_below : PosB f_is_below (topS 7) := fun _ _ _ _ _ _ us hl => match us, hl with | [_, _], _ => rfl
theorem pb_is_tuple : PosB f_is_tuple (topS 8) := fun _ _ _ _ _ _ us hl => match us, hl with | [_, _], _ => rfl
theorem pb_is_number : PosB f_is_number (topS 10) := fun _ _ _ _ _ _ us hl => match us, hl with | [_], _ => rfl
theorem pb_lowest : PosB f_lowest (topS 11) := fun _ _ _ _ _ _ us hl => match us, hl with | [_, _], _ => rfl
theorem pb_plus_in : PosB f_plus_in (topS 12) := fun _ _ _ _ _ _ us hl => match us, hl with | [_, _], _ => rfl
theorem pb_minus_in : PosB f_minus_in (topS 13) := fun _ _ _ _ _ _ us hl => match us, hl with | [_, _], _ => rfl
theorem pb_times_in : PosB f_times_in (topS 14) := fun _ _ _ _ _ _ us hl => match us, hl with | [_, _], _ => rfl
theorem pb_over_in : PosB f_over_in (topS 15) := fun _ _ _ _ _ _ us hl => match us, hl with | [_, _], _ => rfl
theorem pb_in_sequence : PosB f_in_sequence (topS 16) := fun _ _ _ _ _ _ us hl => match us, hl with | [_], _ => rfl
theorem pb_ahead : PosB f_ahead (topS 17) := fun _ _ _ _ _ _ us hl => match us, hl with | [_, _], _ => rfl
theorem pb_is_term : PosB f_is_term (topS 18) := fun _ _ _ _ _ _ us hl => match us, hl with | [_, _], _ => rfl
theorem pb_term_worth : PosB f_term_worth (topS 19) := fun _ _ _ _ _ _ us hl => match us, hl with | [_, _], _ => rfl
theorem pb_together : PosB f_together (topS 20) := fun _ _ _ _ _ _ us hl => match us, hl with | [_], _ => rfl
theorem pb_middle_in : PosB f_middle_in (topS 21) := fun _ _ _ _ _ _ us hl => match us, hl with | [_, _], _ => rfl
theorem pb_pairs_below : PosB f_pairs_below (topS 23) := fun _ _ _ _ _ _ us hl => match us, hl with | [_, _], _ => rfl
theorem pb_heights : PosB f_heights (topS 24) := fun _ _ _ _ _ _ us hl => match us, hl with | [_], _ => rfl
theorem pb_raised : PosB f_raised (topS 25) := fun _ _ _ _ _ _ us hl => match us, hl with | [_, _, _], _ => rfl
theorem pb_extended : PosB f_extended (topS 26) := fun _ _ _ _ _ _ us hl => match us, hl with | [_, _], _ => rfl
theorem pb_cells_in : PosB f_cells_in (topS 27) := fun _ _ _ _ _ _ us hl => match us, hl with | [_, _], _ => rfl
theorem pb_slot_of : PosB f_slot_of (topS 28) := fun _ _ _ _ _ _ us hl => match us, hl with | [_, _], _ => rfl
theorem pb_cell_in : PosB f_cell_in (topS 29) := fun _ _ _ _ _ _ us hl => match us, hl with | [_, _], _ => rfl
theorem pb_number_at : PosB f_number_at (topS 30) := fun _ _ _ _ _ _ us hl => match us, hl with | [_, _, _, _], _ => rfl
theorem pb_sample_in : PosB f_sample_in (topS 31) := fun _ _ _ _ _ _ us hl => match us, hl with | [_, _], _ => rfl
theorem pb_ways_in : PosB f_ways_in (topS 32) := fun _ _ _ _ _ _ us hl => match us, hl with | [_, _, _], _ => rfl
theorem pb_renamed_pairs : PosB f_renamed_pairs (topS 33) := fun _ _ _ _ _ _ us hl => match us, hl with | [_], _ => rfl
theorem pb_finer_in : PosB f_finer_in (topS 34) := fun _ _ _ _ _ _ us hl => match us, hl with | [_, _, _], _ => rfl
theorem pb_coarser_in : PosB f_coarser_in (topS 35) := fun _ _ _ _ _ _ us hl => match us, hl with | [_, _, _], _ => rfl
theorem pb_candidates : PosB f_candidates (topS 36) := fun _ _ _ _ _ _ us hl => match us, hl with | [_, _], _ => rfl
theorem pb_finer_table_in : PosB f_finer_table_in (topS 38) := fun _ _ _ _ _ _ us hl => match us, hl with | [_, _], _ => rfl
theorem pb_left_out : PosB f_left_out (topS 39) := fun _ _ _ _ _ _ us hl => match us, hl with | [_, _], _ => rfl
theorem pb_least_in : PosB f_least_in (topS 40) := fun _ _ _ _ _ _ us hl => match us, hl with | [_], _ => rfl
theorem pb_is_formula_in : PosB f_is_formula_in (topS 43) := fun _ _ _ _ _ _ us hl => match us, hl with | [_, _], _ => rfl
theorem pb_parts_of : PosB f_parts_of (topS 44) := fun _ _ _ _ _ _ us hl => match us, hl with | [_], _ => rfl
theorem pb_numbers_in : PosB f_numbers_in (topS 45) := fun _ _ _ _ _ _ us hl => match us, hl with | [_], _ => rfl
theorem pb_true_by : PosB f_true_by (topS 46) := fun _ _ _ _ _ _ us hl => match us, hl with | [_, _, _], _ => rfl
theorem pb_is_call : PosB f_is_call (topS 51) := fun _ _ _ _ _ _ us hl => match us, hl with | [_, _, _], _ => rfl
theorem pb_is_body : PosB f_is_body (topS 52) := fun _ _ _ _ _ _ us hl => match us, hl with | [_, _, _], _ => rfl
theorem pb_is_rule : PosB f_is_rule (topS 53) := fun _ _ _ _ _ _ us hl => match us, hl with | [_, _], _ => rfl
theorem pb_defining_fault : PosB f_defining_fault (topS 54) := fun _ _ _ _ _ _ us hl => match us, hl with | [_], _ => rfl
theorem pb_is_defining : PosB f_is_defining (topS 55) := fun _ _ _ _ _ _ us hl => match us, hl with | [_], _ => rfl
theorem pb_check_defining : PosB f_check_defining (topS 56) := fun _ _ _ _ _ _ us hl => match us, hl with | [_], _ => rfl
theorem pb_numbers_of : PosB f_numbers_of (topS 57) := fun _ _ _ _ _ _ us hl => match us, hl with | [_], _ => rfl
theorem pb_constants_of : PosB f_constants_of (topS 58) := fun _ _ _ _ _ _ us hl => match us, hl with | [_], _ => rfl
theorem pb_body_holds : PosB f_body_holds (topS 59) := fun _ _ _ _ _ _ us hl => match us, hl with | [_, _, _, _], _ => rfl
theorem pb_steps_in : PosB f_steps_in (topS 60) := fun _ _ _ _ _ _ us hl => match us, hl with | [_, _], _ => rfl
theorem pb_taken_on : PosB f_taken_on (topS 61) := fun _ _ _ _ _ _ us hl => match us, hl with | [_, _, _], _ => rfl
theorem pb_grown_lots : PosB f_grown_lots (topS 62) := fun _ _ _ _ _ _ us hl => match us, hl with | [_], _ => rfl
theorem pb_least_tables : PosB f_least_tables (topS 63) := fun _ _ _ _ _ _ us hl => match us, hl with | [_], _ => rfl
theorem pb_rounds : PosB f_rounds (topS 64) := fun _ _ _ _ _ _ us hl => match us, hl with | [_], _ => rfl
theorem pb_satisfy : PosB f_satisfy (topS 65) := fun _ _ _ _ _ _ us hl => match us, hl with | [_, _], _ => rfl
theorem pb__law_source : PosB f__law_source (topS 67) := fun _ _ _ _ _ _ us hl => match us, hl with | [_, _], _ => rfl
theorem pb__law_draw : PosB f__law_draw (topS 68) := fun _ _ _ _ _ _ us hl => match us, hl with | [_, _], _ => rfl
theorem pb__law_pick : PosB f__law_pick (topS 69) := fun _ _ _ _ _ _ us hl => match us, hl with | [_, _], _ => rfl
theorem pb__law_same : PosB f__law_same (topS 70) := fun _ _ _ _ _ _ us hl => match us, hl with | [_, _], _ => rfl
theorem pb__law_ahead : PosB f__law_ahead (topS 71) := fun _ _ _ _ _ _ us hl => match us, hl with | [_, _], _ => rfl
theorem pb__law_low : PosB f__law_low (topS 72) := fun _ _ _ _ _ _ us hl => match us, hl with | [_, _], _ => rfl
theorem pb__law_sorted : PosB f__law_sorted (topS 73) := fun _ _ _ _ _ _ us hl => match us, hl with | [_], _ => rfl
theorem pb__law_number : PosB f__law_number (topS 74) := fun _ _ _ _ _ _ us hl => match us, hl with | [_], _ => rfl
theorem pb__law_constants : PosB f__law_constants (topS 75) := fun _ _ _ _ _ _ us hl => match us, hl with | [_, _], _ => rfl
theorem pb__law_term : PosB f__law_term (topS 76) := fun _ _ _ _ _ _ us hl => match us, hl with | [_, _, _], _ => rfl
theorem pb__law_formula : PosB f__law_formula (topS 77) := fun _ _ _ _ _ _ us hl => match us, hl with | [_, _, _, _], _ => rfl
theorem pb__law_body : PosB f__law_body (topS 78) := fun _ _ _ _ _ _ us hl => match us, hl with | [_, _, _, _, _], _ => rfl
theorem pb__law_defining : PosB f__law_defining (topS 79) := fun _ _ _ _ _ _ us hl => match us, hl with | [_, _], _ => rfl
theorem pb__law_caught : PosB f__law_caught (topS 80) := fun _ _ _ _ _ _ us hl => match us, hl with | [_, _], _ => rfl
theorem pb__law_odd_rules : PosB f__law_odd_rules (topS 81) := fun _ _ _ _ _ _ us hl => match us, hl with | [_, _], _ => rfl
theorem pb__law_bent : PosB f__law_bent (topS 82) := fun _ _ _ _ _ _ us hl => match us, hl with | [_, _], _ => rfl
theorem pb__law_right : PosB f__law_right (topS 83) := fun _ _ _ _ _ _ us hl => match us, hl with | [_], _ => rfl
theorem pb_law : PosB f_law (topS 84) := fun _ _ _ _ _ _ us hl => match us, hl with | [_], _ => rfl
theorem kb_is_defining_0_0 : KwB f_is_defining (topS 55) 0 [0] := fun _ _ _ _ _ _ ks hk us ws zs h1 h2 h3 => match us, ws, h1, h2, h3 with
  | [], [w0], _, _, h3 => by
    have e : ks = [("value" : Str)] := by
      have := hk.symm
      simpa [f_is_defining] using List.map_inj_right (fun _ _ h => Option.some.inj h) |>.mp (this.trans (show _ = List.map some [("value" : Str)] from rfl))
    subst e
    have e2 := Option.some.inj h3
    subst e2
    rfl
theorem kb_defining_fault_0_0 : KwB f_defining_fault (topS 54) 0 [0] := fun _ _ _ _ _ _ ks hk us ws zs h1 h2 h3 => match us, ws, h1, h2, h3 with
  | [], [w0], _, _, h3 => by
    have e : ks = [("value" : Str)] := by
      have := hk.symm
      simpa [f_defining_fault] using List.map_inj_right (fun _ _ h => Option.some.inj h) |>.mp (this.trans (show _ = List.map some [("value" : Str)] from rfl))
    subst e
    have e2 := Option.some.inj h3
    subst e2
    rfl
theorem tx_0_is_integer : ∃ st, stsL[0]? = some st ∧ ckFn tab f_is_integer st = true ∧ PosB f_is_integer st ∧ ∀ np kws, (0, np, kws) ∈ tab.kws → KwB f_is_integer st np kws :=
  ⟨topS 5, rfl, ck_is_integer, pb_is_integer, fun np kws h => by
    have h : (0, np, kws) ∈ ([(67, 0, [0]), (66, 0, [0])] : List (Nat × Nat × List Nat)) := h
    simp at h⟩
theorem tx_1_is_from : ∃ st, stsL[1]? = some st ∧ ckFn tab f_is_from st = true ∧ PosB f_is_from st ∧ ∀ np kws, (1, np, kws) ∈ tab.kws → KwB f_is_from st np kws :=
  ⟨topS 6, rfl, ck_is_from, pb_is_from, fun np kws h => by
    have h : (1, np, kws) ∈ ([(67, 0, [0]), (66, 0, [0])] : List (Nat × Nat × List Nat)) := h
    simp at h⟩
theorem tx_2_is_below : ∃ st, stsL[2]? = some st ∧ ckFn tab f_is_below st = true ∧ PosB f_is_below st ∧ ∀ np kws, (2, np, kws) ∈ tab.kws → KwB f_is_below st np kws :=
  ⟨topS 7, rfl, ck_is_below, pb_is_below, fun np kws h => by
    have h : (2, np, kws) ∈ ([(67, 0, [0]), (66, 0, [0])] : List (Nat × Nat × List Nat)) := h
    simp at h⟩
theorem tx_3_is_tuple : ∃ st, stsL[3]? = some st ∧ ckFn tab f_is_tuple st = true ∧ PosB f_is_tuple st ∧ ∀ np kws, (3, np, kws) ∈ tab.kws → KwB f_is_tuple st np kws :=
  ⟨topS 8, rfl, ck_is_tuple, pb_is_tuple, fun np kws h => by
    have h : (3, np, kws) ∈ ([(67, 0, [0]), (66, 0, [0])] : List (Nat × Nat × List Nat)) := h
    simp at h⟩
theorem tx_4_is_integer : ∃ st, stsL[4]? = some st ∧ ckFn tab f_is_integer st = true ∧ PosB f_is_integer st ∧ ∀ np kws, (4, np, kws) ∈ tab.kws → KwB f_is_integer st np kws :=
  ⟨topS 5, rfl, ck_is_integer, pb_is_integer, fun np kws h => by
    have h : (4, np, kws) ∈ ([(67, 0, [0]), (66, 0, [0])] : List (Nat × Nat × List Nat)) := h
    simp at h⟩
theorem tx_5_is_number : ∃ st, stsL[5]? = some st ∧ ckFn tab f_is_number st = true ∧ PosB f_is_number st ∧ ∀ np kws, (5, np, kws) ∈ tab.kws → KwB f_is_number st np kws :=
  ⟨topS 10, rfl, ck_is_number, pb_is_number, fun np kws h => by
    have h : (5, np, kws) ∈ ([(67, 0, [0]), (66, 0, [0])] : List (Nat × Nat × List Nat)) := h
    simp at h⟩
theorem tx_6_ahead : ∃ st, stsL[6]? = some st ∧ ckFn tab f_ahead st = true ∧ PosB f_ahead st ∧ ∀ np kws, (6, np, kws) ∈ tab.kws → KwB f_ahead st np kws :=
  ⟨topS 17, rfl, ck_ahead, pb_ahead, fun np kws h => by
    have h : (6, np, kws) ∈ ([(67, 0, [0]), (66, 0, [0])] : List (Nat × Nat × List Nat)) := h
    simp at h⟩
theorem tx_7_is_integer : ∃ st, stsL[7]? = some st ∧ ckFn tab f_is_integer st = true ∧ PosB f_is_integer st ∧ ∀ np kws, (7, np, kws) ∈ tab.kws → KwB f_is_integer st np kws :=
  ⟨topS 5, rfl, ck_is_integer, pb_is_integer, fun np kws h => by
    have h : (7, np, kws) ∈ ([(67, 0, [0]), (66, 0, [0])] : List (Nat × Nat × List Nat)) := h
    simp at h⟩
theorem tx_8_is_integer : ∃ st, stsL[8]? = some st ∧ ckFn tab f_is_integer st = true ∧ PosB f_is_integer st ∧ ∀ np kws, (8, np, kws) ∈ tab.kws → KwB f_is_integer st np kws :=
  ⟨topS 5, rfl, ck_is_integer, pb_is_integer, fun np kws h => by
    have h : (8, np, kws) ∈ ([(67, 0, [0]), (66, 0, [0])] : List (Nat × Nat × List Nat)) := h
    simp at h⟩
theorem tx_9_is_integer : ∃ st, stsL[9]? = some st ∧ ckFn tab f_is_integer st = true ∧ PosB f_is_integer st ∧ ∀ np kws, (9, np, kws) ∈ tab.kws → KwB f_is_integer st np kws :=
  ⟨topS 5, rfl, ck_is_integer, pb_is_integer, fun np kws h => by
    have h : (9, np, kws) ∈ ([(67, 0, [0]), (66, 0, [0])] : List (Nat × Nat × List Nat)) := h
    simp at h⟩
theorem tx_10_is_integer : ∃ st, stsL[10]? = some st ∧ ckFn tab f_is_integer st = true ∧ PosB f_is_integer st ∧ ∀ np kws, (10, np, kws) ∈ tab.kws → KwB f_is_integer st np kws :=
  ⟨topS 5, rfl, ck_is_integer, pb_is_integer, fun np kws h => by
    have h : (10, np, kws) ∈ ([(67, 0, [0]), (66, 0, [0])] : List (Nat × Nat × List Nat)) := h
    simp at h⟩
theorem tx_11_is_integer : ∃ st, stsL[11]? = some st ∧ ckFn tab f_is_integer st = true ∧ PosB f_is_integer st ∧ ∀ np kws, (11, np, kws) ∈ tab.kws → KwB f_is_integer st np kws :=
  ⟨topS 5, rfl, ck_is_integer, pb_is_integer, fun np kws h => by
    have h : (11, np, kws) ∈ ([(67, 0, [0]), (66, 0, [0])] : List (Nat × Nat × List Nat)) := h
    simp at h⟩
theorem tx_12_is_integer : ∃ st, stsL[12]? = some st ∧ ckFn tab f_is_integer st = true ∧ PosB f_is_integer st ∧ ∀ np kws, (12, np, kws) ∈ tab.kws → KwB f_is_integer st np kws :=
  ⟨topS 5, rfl, ck_is_integer, pb_is_integer, fun np kws h => by
    have h : (12, np, kws) ∈ ([(67, 0, [0]), (66, 0, [0])] : List (Nat × Nat × List Nat)) := h
    simp at h⟩
theorem tx_13_is_integer : ∃ st, stsL[13]? = some st ∧ ckFn tab f_is_integer st = true ∧ PosB f_is_integer st ∧ ∀ np kws, (13, np, kws) ∈ tab.kws → KwB f_is_integer st np kws :=
  ⟨topS 5, rfl, ck_is_integer, pb_is_integer, fun np kws h => by
    have h : (13, np, kws) ∈ ([(67, 0, [0]), (66, 0, [0])] : List (Nat × Nat × List Nat)) := h
    simp at h⟩
theorem tx_14_is_integer : ∃ st, stsL[14]? = some st ∧ ckFn tab f_is_integer st = true ∧ PosB f_is_integer st ∧ ∀ np kws, (14, np, kws) ∈ tab.kws → KwB f_is_integer st np kws :=
  ⟨topS 5, rfl, ck_is_integer, pb_is_integer, fun np kws h => by
    have h : (14, np, kws) ∈ ([(67, 0, [0]), (66, 0, [0])] : List (Nat × Nat × List Nat)) := h
    simp at h⟩
theorem tx_15_is_integer : ∃ st, stsL[15]? = some st ∧ ckFn tab f_is_integer st = true ∧ PosB f_is_integer st ∧ ∀ np kws, (15, np, kws) ∈ tab.kws → KwB f_is_integer st np kws :=
  ⟨topS 5, rfl, ck_is_integer, pb_is_integer, fun np kws h => by
    have h : (15, np, kws) ∈ ([(67, 0, [0]), (66, 0, [0])] : List (Nat × Nat × List Nat)) := h
    simp at h⟩
theorem tx_16__law_source : ∃ st, stsL[16]? = some st ∧ ckFn tab f__law_source st = true ∧ PosB f__law_source st ∧ ∀ np kws, (16, np, kws) ∈ tab.kws → KwB f__law_source st np kws :=
  ⟨topS 67, rfl, ck__law_source, pb__law_source, fun np kws h => by
    have h : (16, np, kws) ∈ ([(67, 0, [0]), (66, 0, [0])] : List (Nat × Nat × List Nat)) := h
    simp at h⟩
theorem tx_17__law_draw : ∃ st, stsL[17]? = some st ∧ ckFn tab f__law_draw st = true ∧ PosB f__law_draw st ∧ ∀ np kws, (17, np, kws) ∈ tab.kws → KwB f__law_draw st np kws :=
  ⟨topS 68, rfl, ck__law_draw, pb__law_draw, fun np kws h => by
    have h : (17, np, kws) ∈ ([(67, 0, [0]), (66, 0, [0])] : List (Nat × Nat × List Nat)) := h
    simp at h⟩
theorem tx_18__law_pick : ∃ st, stsL[18]? = some st ∧ ckFn tab f__law_pick st = true ∧ PosB f__law_pick st ∧ ∀ np kws, (18, np, kws) ∈ tab.kws → KwB f__law_pick st np kws :=
  ⟨topS 69, rfl, ck__law_pick, pb__law_pick, fun np kws h => by
    have h : (18, np, kws) ∈ ([(67, 0, [0]), (66, 0, [0])] : List (Nat × Nat × List Nat)) := h
    simp at h⟩
theorem tx_19__law_same : ∃ st, stsL[19]? = some st ∧ ckFn tab f__law_same st = true ∧ PosB f__law_same st ∧ ∀ np kws, (19, np, kws) ∈ tab.kws → KwB f__law_same st np kws :=
  ⟨topS 70, rfl, ck__law_same, pb__law_same, fun np kws h => by
    have h : (19, np, kws) ∈ ([(67, 0, [0]), (66, 0, [0])] : List (Nat × Nat × List Nat)) := h
    simp at h⟩
theorem tx_20__law_ahead : ∃ st, stsL[20]? = some st ∧ ckFn tab f__law_ahead st = true ∧ PosB f__law_ahead st ∧ ∀ np kws, (20, np, kws) ∈ tab.kws → KwB f__law_ahead st np kws :=
  ⟨topS 71, rfl, ck__law_ahead, pb__law_ahead, fun np kws h => by
    have h : (20, np, kws) ∈ ([(67, 0, [0]), (66, 0, [0])] : List (Nat × Nat × List Nat)) := h
    simp at h⟩
theorem tx_21__law_low : ∃ st, stsL[21]? = some st ∧ ckFn tab f__law_low st = true ∧ PosB f__law_low st ∧ ∀ np kws, (21, np, kws) ∈ tab.kws → KwB f__law_low st np kws :=
  ⟨topS 72, rfl, ck__law_low, pb__law_low, fun np kws h => by
    have h : (21, np, kws) ∈ ([(67, 0, [0]), (66, 0, [0])] : List (Nat × Nat × List Nat)) := h
    simp at h⟩
theorem tx_22__law_sorted : ∃ st, stsL[22]? = some st ∧ ckFn tab f__law_sorted st = true ∧ PosB f__law_sorted st ∧ ∀ np kws, (22, np, kws) ∈ tab.kws → KwB f__law_sorted st np kws :=
  ⟨topS 73, rfl, ck__law_sorted, pb__law_sorted, fun np kws h => by
    have h : (22, np, kws) ∈ ([(67, 0, [0]), (66, 0, [0])] : List (Nat × Nat × List Nat)) := h
    simp at h⟩
theorem tx_23__law_number : ∃ st, stsL[23]? = some st ∧ ckFn tab f__law_number st = true ∧ PosB f__law_number st ∧ ∀ np kws, (23, np, kws) ∈ tab.kws → KwB f__law_number st np kws :=
  ⟨topS 74, rfl, ck__law_number, pb__law_number, fun np kws h => by
    have h : (23, np, kws) ∈ ([(67, 0, [0]), (66, 0, [0])] : List (Nat × Nat × List Nat)) := h
    simp at h⟩
theorem tx_24__law_constants : ∃ st, stsL[24]? = some st ∧ ckFn tab f__law_constants st = true ∧ PosB f__law_constants st ∧ ∀ np kws, (24, np, kws) ∈ tab.kws → KwB f__law_constants st np kws :=
  ⟨topS 75, rfl, ck__law_constants, pb__law_constants, fun np kws h => by
    have h : (24, np, kws) ∈ ([(67, 0, [0]), (66, 0, [0])] : List (Nat × Nat × List Nat)) := h
    simp at h⟩
theorem tx_25_is_integer : ∃ st, stsL[25]? = some st ∧ ckFn tab f_is_integer st = true ∧ PosB f_is_integer st ∧ ∀ np kws, (25, np, kws) ∈ tab.kws → KwB f_is_integer st np kws :=
  ⟨topS 5, rfl, ck_is_integer, pb_is_integer, fun np kws h => by
    have h : (25, np, kws) ∈ ([(67, 0, [0]), (66, 0, [0])] : List (Nat × Nat × List Nat)) := h
    simp at h⟩
theorem tx_26_is_integer : ∃ st, stsL[26]? = some st ∧ ckFn tab f_is_integer st = true ∧ PosB f_is_integer st ∧ ∀ np kws, (26, np, kws) ∈ tab.kws → KwB f_is_integer st np kws :=
  ⟨topS 5, rfl, ck_is_integer, pb_is_integer, fun np kws h => by
    have h : (26, np, kws) ∈ ([(67, 0, [0]), (66, 0, [0])] : List (Nat × Nat × List Nat)) := h
    simp at h⟩
theorem tx_27_is_integer : ∃ st, stsL[27]? = some st ∧ ckFn tab f_is_integer st = true ∧ PosB f_is_integer st ∧ ∀ np kws, (27, np, kws) ∈ tab.kws → KwB f_is_integer st np kws :=
  ⟨topS 5, rfl, ck_is_integer, pb_is_integer, fun np kws h => by
    have h : (27, np, kws) ∈ ([(67, 0, [0]), (66, 0, [0])] : List (Nat × Nat × List Nat)) := h
    simp at h⟩
theorem tx_28_is_integer : ∃ st, stsL[28]? = some st ∧ ckFn tab f_is_integer st = true ∧ PosB f_is_integer st ∧ ∀ np kws, (28, np, kws) ∈ tab.kws → KwB f_is_integer st np kws :=
  ⟨topS 5, rfl, ck_is_integer, pb_is_integer, fun np kws h => by
    have h : (28, np, kws) ∈ ([(67, 0, [0]), (66, 0, [0])] : List (Nat × Nat × List Nat)) := h
    simp at h⟩
theorem tx_29_is_integer : ∃ st, stsL[29]? = some st ∧ ckFn tab f_is_integer st = true ∧ PosB f_is_integer st ∧ ∀ np kws, (29, np, kws) ∈ tab.kws → KwB f_is_integer st np kws :=
  ⟨topS 5, rfl, ck_is_integer, pb_is_integer, fun np kws h => by
    have h : (29, np, kws) ∈ ([(67, 0, [0]), (66, 0, [0])] : List (Nat × Nat × List Nat)) := h
    simp at h⟩
theorem tx_30_is_integer : ∃ st, stsL[30]? = some st ∧ ckFn tab f_is_integer st = true ∧ PosB f_is_integer st ∧ ∀ np kws, (30, np, kws) ∈ tab.kws → KwB f_is_integer st np kws :=
  ⟨topS 5, rfl, ck_is_integer, pb_is_integer, fun np kws h => by
    have h : (30, np, kws) ∈ ([(67, 0, [0]), (66, 0, [0])] : List (Nat × Nat × List Nat)) := h
    simp at h⟩
theorem tx_31_is_integer : ∃ st, stsL[31]? = some st ∧ ckFn tab f_is_integer st = true ∧ PosB f_is_integer st ∧ ∀ np kws, (31, np, kws) ∈ tab.kws → KwB f_is_integer st np kws :=
  ⟨topS 5, rfl, ck_is_integer, pb_is_integer, fun np kws h => by
    have h : (31, np, kws) ∈ ([(67, 0, [0]), (66, 0, [0])] : List (Nat × Nat × List Nat)) := h
    simp at h⟩
theorem tx_32_lowest : ∃ st, stsL[32]? = some st ∧ ckFn tab f_lowest st = true ∧ PosB f_lowest st ∧ ∀ np kws, (32, np, kws) ∈ tab.kws → KwB f_lowest st np kws :=
  ⟨topS 11, rfl, ck_lowest, pb_lowest, fun np kws h => by
    have h : (32, np, kws) ∈ ([(67, 0, [0]), (66, 0, [0])] : List (Nat × Nat × List Nat)) := h
    simp at h⟩
theorem tx_33_plus_in : ∃ st, stsL[33]? = some st ∧ ckFn tab f_plus_in st = true ∧ PosB f_plus_in st ∧ ∀ np kws, (33, np, kws) ∈ tab.kws → KwB f_plus_in st np kws :=
  ⟨topS 12, rfl, ck_plus_in, pb_plus_in, fun np kws h => by
    have h : (33, np, kws) ∈ ([(67, 0, [0]), (66, 0, [0])] : List (Nat × Nat × List Nat)) := h
    simp at h⟩
theorem tx_34_minus_in : ∃ st, stsL[34]? = some st ∧ ckFn tab f_minus_in st = true ∧ PosB f_minus_in st ∧ ∀ np kws, (34, np, kws) ∈ tab.kws → KwB f_minus_in st np kws :=
  ⟨topS 13, rfl, ck_minus_in, pb_minus_in, fun np kws h => by
    have h : (34, np, kws) ∈ ([(67, 0, [0]), (66, 0, [0])] : List (Nat × Nat × List Nat)) := h
    simp at h⟩
theorem tx_35_times_in : ∃ st, stsL[35]? = some st ∧ ckFn tab f_times_in st = true ∧ PosB f_times_in st ∧ ∀ np kws, (35, np, kws) ∈ tab.kws → KwB f_times_in st np kws :=
  ⟨topS 14, rfl, ck_times_in, pb_times_in, fun np kws h => by
    have h : (35, np, kws) ∈ ([(67, 0, [0]), (66, 0, [0])] : List (Nat × Nat × List Nat)) := h
    simp at h⟩
theorem tx_36_over_in : ∃ st, stsL[36]? = some st ∧ ckFn tab f_over_in st = true ∧ PosB f_over_in st ∧ ∀ np kws, (36, np, kws) ∈ tab.kws → KwB f_over_in st np kws :=
  ⟨topS 15, rfl, ck_over_in, pb_over_in, fun np kws h => by
    have h : (36, np, kws) ∈ ([(67, 0, [0]), (66, 0, [0])] : List (Nat × Nat × List Nat)) := h
    simp at h⟩
theorem tx_37_in_sequence : ∃ st, stsL[37]? = some st ∧ ckFn tab f_in_sequence st = true ∧ PosB f_in_sequence st ∧ ∀ np kws, (37, np, kws) ∈ tab.kws → KwB f_in_sequence st np kws :=
  ⟨topS 16, rfl, ck_in_sequence, pb_in_sequence, fun np kws h => by
    have h : (37, np, kws) ∈ ([(67, 0, [0]), (66, 0, [0])] : List (Nat × Nat × List Nat)) := h
    simp at h⟩
theorem tx_38_is_term : ∃ st, stsL[38]? = some st ∧ ckFn tab f_is_term st = true ∧ PosB f_is_term st ∧ ∀ np kws, (38, np, kws) ∈ tab.kws → KwB f_is_term st np kws :=
  ⟨topS 18, rfl, ck_is_term, pb_is_term, fun np kws h => by
    have h : (38, np, kws) ∈ ([(67, 0, [0]), (66, 0, [0])] : List (Nat × Nat × List Nat)) := h
    simp at h⟩
theorem tx_39_term_worth : ∃ st, stsL[39]? = some st ∧ ckFn tab f_term_worth st = true ∧ PosB f_term_worth st ∧ ∀ np kws, (39, np, kws) ∈ tab.kws → KwB f_term_worth st np kws :=
  ⟨topS 19, rfl, ck_term_worth, pb_term_worth, fun np kws h => by
    have h : (39, np, kws) ∈ ([(67, 0, [0]), (66, 0, [0])] : List (Nat × Nat × List Nat)) := h
    simp at h⟩
theorem tx_40_together : ∃ st, stsL[40]? = some st ∧ ckFn tab f_together st = true ∧ PosB f_together st ∧ ∀ np kws, (40, np, kws) ∈ tab.kws → KwB f_together st np kws :=
  ⟨topS 20, rfl, ck_together, pb_together, fun np kws h => by
    have h : (40, np, kws) ∈ ([(67, 0, [0]), (66, 0, [0])] : List (Nat × Nat × List Nat)) := h
    simp at h⟩
theorem tx_41_middle_in : ∃ st, stsL[41]? = some st ∧ ckFn tab f_middle_in st = true ∧ PosB f_middle_in st ∧ ∀ np kws, (41, np, kws) ∈ tab.kws → KwB f_middle_in st np kws :=
  ⟨topS 21, rfl, ck_middle_in, pb_middle_in, fun np kws h => by
    have h : (41, np, kws) ∈ ([(67, 0, [0]), (66, 0, [0])] : List (Nat × Nat × List Nat)) := h
    simp at h⟩
theorem tx_42_pairs_below : ∃ st, stsL[42]? = some st ∧ ckFn tab f_pairs_below st = true ∧ PosB f_pairs_below st ∧ ∀ np kws, (42, np, kws) ∈ tab.kws → KwB f_pairs_below st np kws :=
  ⟨topS 23, rfl, ck_pairs_below, pb_pairs_below, fun np kws h => by
    have h : (42, np, kws) ∈ ([(67, 0, [0]), (66, 0, [0])] : List (Nat × Nat × List Nat)) := h
    simp at h⟩
theorem tx_43_heights : ∃ st, stsL[43]? = some st ∧ ckFn tab f_heights st = true ∧ PosB f_heights st ∧ ∀ np kws, (43, np, kws) ∈ tab.kws → KwB f_heights st np kws :=
  ⟨topS 24, rfl, ck_heights, pb_heights, fun np kws h => by
    have h : (43, np, kws) ∈ ([(67, 0, [0]), (66, 0, [0])] : List (Nat × Nat × List Nat)) := h
    simp at h⟩
theorem tx_44_raised : ∃ st, stsL[44]? = some st ∧ ckFn tab f_raised st = true ∧ PosB f_raised st ∧ ∀ np kws, (44, np, kws) ∈ tab.kws → KwB f_raised st np kws :=
  ⟨topS 25, rfl, ck_raised, pb_raised, fun np kws h => by
    have h : (44, np, kws) ∈ ([(67, 0, [0]), (66, 0, [0])] : List (Nat × Nat × List Nat)) := h
    simp at h⟩
theorem tx_45_extended : ∃ st, stsL[45]? = some st ∧ ckFn tab f_extended st = true ∧ PosB f_extended st ∧ ∀ np kws, (45, np, kws) ∈ tab.kws → KwB f_extended st np kws :=
  ⟨topS 26, rfl, ck_extended, pb_extended, fun np kws h => by
    have h : (45, np, kws) ∈ ([(67, 0, [0]), (66, 0, [0])] : List (Nat × Nat × List Nat)) := h
    simp at h⟩
theorem tx_46_cells_in : ∃ st, stsL[46]? = some st ∧ ckFn tab f_cells_in st = true ∧ PosB f_cells_in st ∧ ∀ np kws, (46, np, kws) ∈ tab.kws → KwB f_cells_in st np kws :=
  ⟨topS 27, rfl, ck_cells_in, pb_cells_in, fun np kws h => by
    have h : (46, np, kws) ∈ ([(67, 0, [0]), (66, 0, [0])] : List (Nat × Nat × List Nat)) := h
    simp at h⟩
theorem tx_47_slot_of : ∃ st, stsL[47]? = some st ∧ ckFn tab f_slot_of st = true ∧ PosB f_slot_of st ∧ ∀ np kws, (47, np, kws) ∈ tab.kws → KwB f_slot_of st np kws :=
  ⟨topS 28, rfl, ck_slot_of, pb_slot_of, fun np kws h => by
    have h : (47, np, kws) ∈ ([(67, 0, [0]), (66, 0, [0])] : List (Nat × Nat × List Nat)) := h
    simp at h⟩
theorem tx_48_cell_in : ∃ st, stsL[48]? = some st ∧ ckFn tab f_cell_in st = true ∧ PosB f_cell_in st ∧ ∀ np kws, (48, np, kws) ∈ tab.kws → KwB f_cell_in st np kws :=
  ⟨topS 29, rfl, ck_cell_in, pb_cell_in, fun np kws h => by
    have h : (48, np, kws) ∈ ([(67, 0, [0]), (66, 0, [0])] : List (Nat × Nat × List Nat)) := h
    simp at h⟩
theorem tx_49_number_at : ∃ st, stsL[49]? = some st ∧ ckFn tab f_number_at st = true ∧ PosB f_number_at st ∧ ∀ np kws, (49, np, kws) ∈ tab.kws → KwB f_number_at st np kws :=
  ⟨topS 30, rfl, ck_number_at, pb_number_at, fun np kws h => by
    have h : (49, np, kws) ∈ ([(67, 0, [0]), (66, 0, [0])] : List (Nat × Nat × List Nat)) := h
    simp at h⟩
theorem tx_50_sample_in : ∃ st, stsL[50]? = some st ∧ ckFn tab f_sample_in st = true ∧ PosB f_sample_in st ∧ ∀ np kws, (50, np, kws) ∈ tab.kws → KwB f_sample_in st np kws :=
  ⟨topS 31, rfl, ck_sample_in, pb_sample_in, fun np kws h => by
    have h : (50, np, kws) ∈ ([(67, 0, [0]), (66, 0, [0])] : List (Nat × Nat × List Nat)) := h
    simp at h⟩
theorem tx_51_ways_in : ∃ st, stsL[51]? = some st ∧ ckFn tab f_ways_in st = true ∧ PosB f_ways_in st ∧ ∀ np kws, (51, np, kws) ∈ tab.kws → KwB f_ways_in st np kws :=
  ⟨topS 32, rfl, ck_ways_in, pb_ways_in, fun np kws h => by
    have h : (51, np, kws) ∈ ([(67, 0, [0]), (66, 0, [0])] : List (Nat × Nat × List Nat)) := h
    simp at h⟩
theorem tx_52_renamed_pairs : ∃ st, stsL[52]? = some st ∧ ckFn tab f_renamed_pairs st = true ∧ PosB f_renamed_pairs st ∧ ∀ np kws, (52, np, kws) ∈ tab.kws → KwB f_renamed_pairs st np kws :=
  ⟨topS 33, rfl, ck_renamed_pairs, pb_renamed_pairs, fun np kws h => by
    have h : (52, np, kws) ∈ ([(67, 0, [0]), (66, 0, [0])] : List (Nat × Nat × List Nat)) := h
    simp at h⟩
theorem tx_53_finer_in : ∃ st, stsL[53]? = some st ∧ ckFn tab f_finer_in st = true ∧ PosB f_finer_in st ∧ ∀ np kws, (53, np, kws) ∈ tab.kws → KwB f_finer_in st np kws :=
  ⟨topS 34, rfl, ck_finer_in, pb_finer_in, fun np kws h => by
    have h : (53, np, kws) ∈ ([(67, 0, [0]), (66, 0, [0])] : List (Nat × Nat × List Nat)) := h
    simp at h⟩
theorem tx_54_coarser_in : ∃ st, stsL[54]? = some st ∧ ckFn tab f_coarser_in st = true ∧ PosB f_coarser_in st ∧ ∀ np kws, (54, np, kws) ∈ tab.kws → KwB f_coarser_in st np kws :=
  ⟨topS 35, rfl, ck_coarser_in, pb_coarser_in, fun np kws h => by
    have h : (54, np, kws) ∈ ([(67, 0, [0]), (66, 0, [0])] : List (Nat × Nat × List Nat)) := h
    simp at h⟩
theorem tx_55_candidates : ∃ st, stsL[55]? = some st ∧ ckFn tab f_candidates st = true ∧ PosB f_candidates st ∧ ∀ np kws, (55, np, kws) ∈ tab.kws → KwB f_candidates st np kws :=
  ⟨topS 36, rfl, ck_candidates, pb_candidates, fun np kws h => by
    have h : (55, np, kws) ∈ ([(67, 0, [0]), (66, 0, [0])] : List (Nat × Nat × List Nat)) := h
    simp at h⟩
theorem tx_56_finer_table_in : ∃ st, stsL[56]? = some st ∧ ckFn tab f_finer_table_in st = true ∧ PosB f_finer_table_in st ∧ ∀ np kws, (56, np, kws) ∈ tab.kws → KwB f_finer_table_in st np kws :=
  ⟨topS 38, rfl, ck_finer_table_in, pb_finer_table_in, fun np kws h => by
    have h : (56, np, kws) ∈ ([(67, 0, [0]), (66, 0, [0])] : List (Nat × Nat × List Nat)) := h
    simp at h⟩
theorem tx_57_left_out : ∃ st, stsL[57]? = some st ∧ ckFn tab f_left_out st = true ∧ PosB f_left_out st ∧ ∀ np kws, (57, np, kws) ∈ tab.kws → KwB f_left_out st np kws :=
  ⟨topS 39, rfl, ck_left_out, pb_left_out, fun np kws h => by
    have h : (57, np, kws) ∈ ([(67, 0, [0]), (66, 0, [0])] : List (Nat × Nat × List Nat)) := h
    simp at h⟩
theorem tx_58_least_in : ∃ st, stsL[58]? = some st ∧ ckFn tab f_least_in st = true ∧ PosB f_least_in st ∧ ∀ np kws, (58, np, kws) ∈ tab.kws → KwB f_least_in st np kws :=
  ⟨topS 40, rfl, ck_least_in, pb_least_in, fun np kws h => by
    have h : (58, np, kws) ∈ ([(67, 0, [0]), (66, 0, [0])] : List (Nat × Nat × List Nat)) := h
    simp at h⟩
theorem tx_59_is_formula_in : ∃ st, stsL[59]? = some st ∧ ckFn tab f_is_formula_in st = true ∧ PosB f_is_formula_in st ∧ ∀ np kws, (59, np, kws) ∈ tab.kws → KwB f_is_formula_in st np kws :=
  ⟨topS 43, rfl, ck_is_formula_in, pb_is_formula_in, fun np kws h => by
    have h : (59, np, kws) ∈ ([(67, 0, [0]), (66, 0, [0])] : List (Nat × Nat × List Nat)) := h
    simp at h⟩
theorem tx_60_parts_of : ∃ st, stsL[60]? = some st ∧ ckFn tab f_parts_of st = true ∧ PosB f_parts_of st ∧ ∀ np kws, (60, np, kws) ∈ tab.kws → KwB f_parts_of st np kws :=
  ⟨topS 44, rfl, ck_parts_of, pb_parts_of, fun np kws h => by
    have h : (60, np, kws) ∈ ([(67, 0, [0]), (66, 0, [0])] : List (Nat × Nat × List Nat)) := h
    simp at h⟩
theorem tx_61_numbers_in : ∃ st, stsL[61]? = some st ∧ ckFn tab f_numbers_in st = true ∧ PosB f_numbers_in st ∧ ∀ np kws, (61, np, kws) ∈ tab.kws → KwB f_numbers_in st np kws :=
  ⟨topS 45, rfl, ck_numbers_in, pb_numbers_in, fun np kws h => by
    have h : (61, np, kws) ∈ ([(67, 0, [0]), (66, 0, [0])] : List (Nat × Nat × List Nat)) := h
    simp at h⟩
theorem tx_62_true_by : ∃ st, stsL[62]? = some st ∧ ckFn tab f_true_by st = true ∧ PosB f_true_by st ∧ ∀ np kws, (62, np, kws) ∈ tab.kws → KwB f_true_by st np kws :=
  ⟨topS 46, rfl, ck_true_by, pb_true_by, fun np kws h => by
    have h : (62, np, kws) ∈ ([(67, 0, [0]), (66, 0, [0])] : List (Nat × Nat × List Nat)) := h
    simp at h⟩
theorem tx_63_is_call : ∃ st, stsL[63]? = some st ∧ ckFn tab f_is_call st = true ∧ PosB f_is_call st ∧ ∀ np kws, (63, np, kws) ∈ tab.kws → KwB f_is_call st np kws :=
  ⟨topS 51, rfl, ck_is_call, pb_is_call, fun np kws h => by
    have h : (63, np, kws) ∈ ([(67, 0, [0]), (66, 0, [0])] : List (Nat × Nat × List Nat)) := h
    simp at h⟩
theorem tx_64_is_body : ∃ st, stsL[64]? = some st ∧ ckFn tab f_is_body st = true ∧ PosB f_is_body st ∧ ∀ np kws, (64, np, kws) ∈ tab.kws → KwB f_is_body st np kws :=
  ⟨topS 52, rfl, ck_is_body, pb_is_body, fun np kws h => by
    have h : (64, np, kws) ∈ ([(67, 0, [0]), (66, 0, [0])] : List (Nat × Nat × List Nat)) := h
    simp at h⟩
theorem tx_65_is_rule : ∃ st, stsL[65]? = some st ∧ ckFn tab f_is_rule st = true ∧ PosB f_is_rule st ∧ ∀ np kws, (65, np, kws) ∈ tab.kws → KwB f_is_rule st np kws :=
  ⟨topS 53, rfl, ck_is_rule, pb_is_rule, fun np kws h => by
    have h : (65, np, kws) ∈ ([(67, 0, [0]), (66, 0, [0])] : List (Nat × Nat × List Nat)) := h
    simp at h⟩
theorem tx_66_defining_fault : ∃ st, stsL[66]? = some st ∧ ckFn tab f_defining_fault st = true ∧ PosB f_defining_fault st ∧ ∀ np kws, (66, np, kws) ∈ tab.kws → KwB f_defining_fault st np kws :=
  ⟨topS 54, rfl, ck_defining_fault, pb_defining_fault, fun np kws h => by
    have h : (66, np, kws) ∈ ([(67, 0, [0]), (66, 0, [0])] : List (Nat × Nat × List Nat)) := h
    simp at h
    obtain ⟨rfl, rfl⟩ := h
    exact kb_defining_fault_0_0⟩
theorem tx_67_is_defining : ∃ st, stsL[67]? = some st ∧ ckFn tab f_is_defining st = true ∧ PosB f_is_defining st ∧ ∀ np kws, (67, np, kws) ∈ tab.kws → KwB f_is_defining st np kws :=
  ⟨topS 55, rfl, ck_is_defining, pb_is_defining, fun np kws h => by
    have h : (67, np, kws) ∈ ([(67, 0, [0]), (66, 0, [0])] : List (Nat × Nat × List Nat)) := h
    simp at h
    obtain ⟨rfl, rfl⟩ := h
    exact kb_is_defining_0_0⟩
theorem tx_68_check_defining : ∃ st, stsL[68]? = some st ∧ ckFn tab f_check_defining st = true ∧ PosB f_check_defining st ∧ ∀ np kws, (68, np, kws) ∈ tab.kws → KwB f_check_defining st np kws :=
  ⟨topS 56, rfl, ck_check_defining, pb_check_defining, fun np kws h => by
    have h : (68, np, kws) ∈ ([(67, 0, [0]), (66, 0, [0])] : List (Nat × Nat × List Nat)) := h
    simp at h⟩
theorem tx_69_numbers_of : ∃ st, stsL[69]? = some st ∧ ckFn tab f_numbers_of st = true ∧ PosB f_numbers_of st ∧ ∀ np kws, (69, np, kws) ∈ tab.kws → KwB f_numbers_of st np kws :=
  ⟨topS 57, rfl, ck_numbers_of, pb_numbers_of, fun np kws h => by
    have h : (69, np, kws) ∈ ([(67, 0, [0]), (66, 0, [0])] : List (Nat × Nat × List Nat)) := h
    simp at h⟩
theorem tx_70_constants_of : ∃ st, stsL[70]? = some st ∧ ckFn tab f_constants_of st = true ∧ PosB f_constants_of st ∧ ∀ np kws, (70, np, kws) ∈ tab.kws → KwB f_constants_of st np kws :=
  ⟨topS 58, rfl, ck_constants_of, pb_constants_of, fun np kws h => by
    have h : (70, np, kws) ∈ ([(67, 0, [0]), (66, 0, [0])] : List (Nat × Nat × List Nat)) := h
    simp at h⟩
theorem tx_71_body_holds : ∃ st, stsL[71]? = some st ∧ ckFn tab f_body_holds st = true ∧ PosB f_body_holds st ∧ ∀ np kws, (71, np, kws) ∈ tab.kws → KwB f_body_holds st np kws :=
  ⟨topS 59, rfl, ck_body_holds, pb_body_holds, fun np kws h => by
    have h : (71, np, kws) ∈ ([(67, 0, [0]), (66, 0, [0])] : List (Nat × Nat × List Nat)) := h
    simp at h⟩
theorem tx_72_steps_in : ∃ st, stsL[72]? = some st ∧ ckFn tab f_steps_in st = true ∧ PosB f_steps_in st ∧ ∀ np kws, (72, np, kws) ∈ tab.kws → KwB f_steps_in st np kws :=
  ⟨topS 60, rfl, ck_steps_in, pb_steps_in, fun np kws h => by
    have h : (72, np, kws) ∈ ([(67, 0, [0]), (66, 0, [0])] : List (Nat × Nat × List Nat)) := h
    simp at h⟩
theorem tx_73_taken_on : ∃ st, stsL[73]? = some st ∧ ckFn tab f_taken_on st = true ∧ PosB f_taken_on st ∧ ∀ np kws, (73, np, kws) ∈ tab.kws → KwB f_taken_on st np kws :=
  ⟨topS 61, rfl, ck_taken_on, pb_taken_on, fun np kws h => by
    have h : (73, np, kws) ∈ ([(67, 0, [0]), (66, 0, [0])] : List (Nat × Nat × List Nat)) := h
    simp at h⟩
theorem tx_74_grown_lots : ∃ st, stsL[74]? = some st ∧ ckFn tab f_grown_lots st = true ∧ PosB f_grown_lots st ∧ ∀ np kws, (74, np, kws) ∈ tab.kws → KwB f_grown_lots st np kws :=
  ⟨topS 62, rfl, ck_grown_lots, pb_grown_lots, fun np kws h => by
    have h : (74, np, kws) ∈ ([(67, 0, [0]), (66, 0, [0])] : List (Nat × Nat × List Nat)) := h
    simp at h⟩
theorem tx_75_least_tables : ∃ st, stsL[75]? = some st ∧ ckFn tab f_least_tables st = true ∧ PosB f_least_tables st ∧ ∀ np kws, (75, np, kws) ∈ tab.kws → KwB f_least_tables st np kws :=
  ⟨topS 63, rfl, ck_least_tables, pb_least_tables, fun np kws h => by
    have h : (75, np, kws) ∈ ([(67, 0, [0]), (66, 0, [0])] : List (Nat × Nat × List Nat)) := h
    simp at h⟩
theorem tx_76_rounds : ∃ st, stsL[76]? = some st ∧ ckFn tab f_rounds st = true ∧ PosB f_rounds st ∧ ∀ np kws, (76, np, kws) ∈ tab.kws → KwB f_rounds st np kws :=
  ⟨topS 64, rfl, ck_rounds, pb_rounds, fun np kws h => by
    have h : (76, np, kws) ∈ ([(67, 0, [0]), (66, 0, [0])] : List (Nat × Nat × List Nat)) := h
    simp at h⟩
theorem tx_77_satisfy : ∃ st, stsL[77]? = some st ∧ ckFn tab f_satisfy st = true ∧ PosB f_satisfy st ∧ ∀ np kws, (77, np, kws) ∈ tab.kws → KwB f_satisfy st np kws :=
  ⟨topS 65, rfl, ck_satisfy, pb_satisfy, fun np kws h => by
    have h : (77, np, kws) ∈ ([(67, 0, [0]), (66, 0, [0])] : List (Nat × Nat × List Nat)) := h
    simp at h⟩
theorem tx_78__law_term : ∃ st, stsL[78]? = some st ∧ ckFn tab f__law_term st = true ∧ PosB f__law_term st ∧ ∀ np kws, (78, np, kws) ∈ tab.kws → KwB f__law_term st np kws :=
  ⟨topS 76, rfl, ck__law_term, pb__law_term, fun np kws h => by
    have h : (78, np, kws) ∈ ([(67, 0, [0]), (66, 0, [0])] : List (Nat × Nat × List Nat)) := h
    simp at h⟩
theorem tx_79__law_formula : ∃ st, stsL[79]? = some st ∧ ckFn tab f__law_formula st = true ∧ PosB f__law_formula st ∧ ∀ np kws, (79, np, kws) ∈ tab.kws → KwB f__law_formula st np kws :=
  ⟨topS 77, rfl, ck__law_formula, pb__law_formula, fun np kws h => by
    have h : (79, np, kws) ∈ ([(67, 0, [0]), (66, 0, [0])] : List (Nat × Nat × List Nat)) := h
    simp at h⟩
theorem tx_80__law_body : ∃ st, stsL[80]? = some st ∧ ckFn tab f__law_body st = true ∧ PosB f__law_body st ∧ ∀ np kws, (80, np, kws) ∈ tab.kws → KwB f__law_body st np kws :=
  ⟨topS 78, rfl, ck__law_body, pb__law_body, fun np kws h => by
    have h : (80, np, kws) ∈ ([(67, 0, [0]), (66, 0, [0])] : List (Nat × Nat × List Nat)) := h
    simp at h⟩
theorem tx_81__law_defining : ∃ st, stsL[81]? = some st ∧ ckFn tab f__law_defining st = true ∧ PosB f__law_defining st ∧ ∀ np kws, (81, np, kws) ∈ tab.kws → KwB f__law_defining st np kws :=
  ⟨topS 79, rfl, ck__law_defining, pb__law_defining, fun np kws h => by
    have h : (81, np, kws) ∈ ([(67, 0, [0]), (66, 0, [0])] : List (Nat × Nat × List Nat)) := h
    simp at h⟩
theorem tx_82__law_caught : ∃ st, stsL[82]? = some st ∧ ckFn tab f__law_caught st = true ∧ PosB f__law_caught st ∧ ∀ np kws, (82, np, kws) ∈ tab.kws → KwB f__law_caught st np kws :=
  ⟨topS 80, rfl, ck__law_caught, pb__law_caught, fun np kws h => by
    have h : (82, np, kws) ∈ ([(67, 0, [0]), (66, 0, [0])] : List (Nat × Nat × List Nat)) := h
    simp at h⟩
theorem tx_83__law_odd_rules : ∃ st, stsL[83]? = some st ∧ ckFn tab f__law_odd_rules st = true ∧ PosB f__law_odd_rules st ∧ ∀ np kws, (83, np, kws) ∈ tab.kws → KwB f__law_odd_rules st np kws :=
  ⟨topS 81, rfl, ck__law_odd_rules, pb__law_odd_rules, fun np kws h => by
    have h : (83, np, kws) ∈ ([(67, 0, [0]), (66, 0, [0])] : List (Nat × Nat × List Nat)) := h
    simp at h⟩
theorem tx_84__law_bent : ∃ st, stsL[84]? = some st ∧ ckFn tab f__law_bent st = true ∧ PosB f__law_bent st ∧ ∀ np kws, (84, np, kws) ∈ tab.kws → KwB f__law_bent st np kws :=
  ⟨topS 82, rfl, ck__law_bent, pb__law_bent, fun np kws h => by
    have h : (84, np, kws) ∈ ([(67, 0, [0]), (66, 0, [0])] : List (Nat × Nat × List Nat)) := h
    simp at h⟩
theorem tx_85__law_right : ∃ st, stsL[85]? = some st ∧ ckFn tab f__law_right st = true ∧ PosB f__law_right st ∧ ∀ np kws, (85, np, kws) ∈ tab.kws → KwB f__law_right st np kws :=
  ⟨topS 83, rfl, ck__law_right, pb__law_right, fun np kws h => by
    have h : (85, np, kws) ∈ ([(67, 0, [0]), (66, 0, [0])] : List (Nat × Nat × List Nat)) := h
    simp at h⟩
theorem tx_86_law : ∃ st, stsL[86]? = some st ∧ ckFn tab f_law st = true ∧ PosB f_law st ∧ ∀ np kws, (86, np, kws) ∈ tab.kws → KwB f_law st np kws :=
  ⟨topS 84, rfl, ck_law, pb_law, fun np kws h => by
    have h : (86, np, kws) ∈ ([(67, 0, [0]), (66, 0, [0])] : List (Nat × Nat × List Nat)) := h
    simp at h⟩
theorem txt : Txt prg tab stsL := ⟨fun i fn hi => match i, hi with
  | 0, hi => Option.some.inj (show some f_is_integer = some fn from hi) ▸ tx_0_is_integer
  | 1, hi => Option.some.inj (show some f_is_from = some fn from hi) ▸ tx_1_is_from
  | 2, hi => Option.some.inj (show some f_is_below = some fn from hi) ▸ tx_2_is_below
  | 3, hi => Option.some.inj (show some f_is_tuple = some fn from hi) ▸ tx_3_is_tuple
  | 4, hi => Option.some.inj (show some f_is_integer = some fn from hi) ▸ tx_4_is_integer
  | 5, hi => Option.some.inj (show some f_is_number = some fn from hi) ▸ tx_5_is_number
  | 6, hi => Option.some.inj (show some f_ahead = some fn from hi) ▸ tx_6_ahead
  | 7, hi => Option.some.inj (show some f_is_integer = some fn from hi) ▸ tx_7_is_integer
  | 8, hi => Option.some.inj (show some f_is_integer = some fn from hi) ▸ tx_8_is_integer
  | 9, hi => Option.some.inj (show some f_is_integer = some fn from hi) ▸ tx_9_is_integer
  | 10, hi => Option.some.inj (show some f_is_integer = some fn from hi) ▸ tx_10_is_integer
  | 11, hi => Option.some.inj (show some f_is_integer = some fn from hi) ▸ tx_11_is_integer
  | 12, hi => Option.some.inj (show some f_is_integer = some fn from hi) ▸ tx_12_is_integer
  | 13, hi => Option.some.inj (show some f_is_integer = some fn from hi) ▸ tx_13_is_integer
  | 14, hi => Option.some.inj (show some f_is_integer = some fn from hi) ▸ tx_14_is_integer
  | 15, hi => Option.some.inj (show some f_is_integer = some fn from hi) ▸ tx_15_is_integer
  | 16, hi => Option.some.inj (show some f__law_source = some fn from hi) ▸ tx_16__law_source
  | 17, hi => Option.some.inj (show some f__law_draw = some fn from hi) ▸ tx_17__law_draw
  | 18, hi => Option.some.inj (show some f__law_pick = some fn from hi) ▸ tx_18__law_pick
  | 19, hi => Option.some.inj (show some f__law_same = some fn from hi) ▸ tx_19__law_same
  | 20, hi => Option.some.inj (show some f__law_ahead = some fn from hi) ▸ tx_20__law_ahead
  | 21, hi => Option.some.inj (show some f__law_low = some fn from hi) ▸ tx_21__law_low
  | 22, hi => Option.some.inj (show some f__law_sorted = some fn from hi) ▸ tx_22__law_sorted
  | 23, hi => Option.some.inj (show some f__law_number = some fn from hi) ▸ tx_23__law_number
  | 24, hi => Option.some.inj (show some f__law_constants = some fn from hi) ▸ tx_24__law_constants
  | 25, hi => Option.some.inj (show some f_is_integer = some fn from hi) ▸ tx_25_is_integer
  | 26, hi => Option.some.inj (show some f_is_integer = some fn from hi) ▸ tx_26_is_integer
  | 27, hi => Option.some.inj (show some f_is_integer = some fn from hi) ▸ tx_27_is_integer
  | 28, hi => Option.some.inj (show some f_is_integer = some fn from hi) ▸ tx_28_is_integer
  | 29, hi => Option.some.inj (show some f_is_integer = some fn from hi) ▸ tx_29_is_integer
  | 30, hi => Option.some.inj (show some f_is_integer = some fn from hi) ▸ tx_30_is_integer
  | 31, hi => Option.some.inj (show some f_is_integer = some fn from hi) ▸ tx_31_is_integer
  | 32, hi => Option.some.inj (show some f_lowest = some fn from hi) ▸ tx_32_lowest
  | 33, hi => Option.some.inj (show some f_plus_in = some fn from hi) ▸ tx_33_plus_in
  | 34, hi => Option.some.inj (show some f_minus_in = some fn from hi) ▸ tx_34_minus_in
  | 35, hi => Option.some.inj (show some f_times_in = some fn from hi) ▸ tx_35_times_in
  | 36, hi => Option.some.inj (show some f_over_in = some fn from hi) ▸ tx_36_over_in
  | 37, hi => Option.some.inj (show some f_in_sequence = some fn from hi) ▸ tx_37_in_sequence
  | 38, hi => Option.some.inj (show some f_is_term = some fn from hi) ▸ tx_38_is_term
  | 39, hi => Option.some.inj (show some f_term_worth = some fn from hi) ▸ tx_39_term_worth
  | 40, hi => Option.some.inj (show some f_together = some fn from hi) ▸ tx_40_together
  | 41, hi => Option.some.inj (show some f_middle_in = some fn from hi) ▸ tx_41_middle_in
  | 42, hi => Option.some.inj (show some f_pairs_below = some fn from hi) ▸ tx_42_pairs_below
  | 43, hi => Option.some.inj (show some f_heights = some fn from hi) ▸ tx_43_heights
  | 44, hi => Option.some.inj (show some f_raised = some fn from hi) ▸ tx_44_raised
  | 45, hi => Option.some.inj (show some f_extended = some fn from hi) ▸ tx_45_extended
  | 46, hi => Option.some.inj (show some f_cells_in = some fn from hi) ▸ tx_46_cells_in
  | 47, hi => Option.some.inj (show some f_slot_of = some fn from hi) ▸ tx_47_slot_of
  | 48, hi => Option.some.inj (show some f_cell_in = some fn from hi) ▸ tx_48_cell_in
  | 49, hi => Option.some.inj (show some f_number_at = some fn from hi) ▸ tx_49_number_at
  | 50, hi => Option.some.inj (show some f_sample_in = some fn from hi) ▸ tx_50_sample_in
  | 51, hi => Option.some.inj (show some f_ways_in = some fn from hi) ▸ tx_51_ways_in
  | 52, hi => Option.some.inj (show some f_renamed_pairs = some fn from hi) ▸ tx_52_renamed_pairs
  | 53, hi => Option.some.inj (show some f_finer_in = some fn from hi) ▸ tx_53_finer_in
  | 54, hi => Option.some.inj (show some f_coarser_in = some fn from hi) ▸ tx_54_coarser_in
  | 55, hi => Option.some.inj (show some f_candidates = some fn from hi) ▸ tx_55_candidates
  | 56, hi => Option.some.inj (show some f_finer_table_in = some fn from hi) ▸ tx_56_finer_table_in
  | 57, hi => Option.some.inj (show some f_left_out = some fn from hi) ▸ tx_57_left_out
  | 58, hi => Option.some.inj (show some f_least_in = some fn from hi) ▸ tx_58_least_in
  | 59, hi => Option.some.inj (show some f_is_formula_in = some fn from hi) ▸ tx_59_is_formula_in
  | 60, hi => Option.some.inj (show some f_parts_of = some fn from hi) ▸ tx_60_parts_of
  | 61, hi => Option.some.inj (show some f_numbers_in = some fn from hi) ▸ tx_61_numbers_in
  | 62, hi => Option.some.inj (show some f_true_by = some fn from hi) ▸ tx_62_true_by
  | 63, hi => Option.some.inj (show some f_is_call = some fn from hi) ▸ tx_63_is_call
  | 64, hi => Option.some.inj (show some f_is_body = some fn from hi) ▸ tx_64_is_body
  | 65, hi => Option.some.inj (show some f_is_rule = some fn from hi) ▸ tx_65_is_rule
  | 66, hi => Option.some.inj (show some f_defining_fault = some fn from hi) ▸ tx_66_defining_fault
  | 67, hi => Option.some.inj (show some f_is_defining = some fn from hi) ▸ tx_67_is_defining
  | 68, hi => Option.some.inj (show some f_check_defining = some fn from hi) ▸ tx_68_check_defining
  | 69, hi => Option.some.inj (show some f_numbers_of = some fn from hi) ▸ tx_69_numbers_of
  | 70, hi => Option.some.inj (show some f_constants_of = some fn from hi) ▸ tx_70_constants_of
  | 71, hi => Option.some.inj (show some f_body_holds = some fn from hi) ▸ tx_71_body_holds
  | 72, hi => Option.some.inj (show some f_steps_in = some fn from hi) ▸ tx_72_steps_in
  | 73, hi => Option.some.inj (show some f_taken_on = some fn from hi) ▸ tx_73_taken_on
  | 74, hi => Option.some.inj (show some f_grown_lots = some fn from hi) ▸ tx_74_grown_lots
  | 75, hi => Option.some.inj (show some f_least_tables = some fn from hi) ▸ tx_75_least_tables
  | 76, hi => Option.some.inj (show some f_rounds = some fn from hi) ▸ tx_76_rounds
  | 77, hi => Option.some.inj (show some f_satisfy = some fn from hi) ▸ tx_77_satisfy
  | 78, hi => Option.some.inj (show some f__law_term = some fn from hi) ▸ tx_78__law_term
  | 79, hi => Option.some.inj (show some f__law_formula = some fn from hi) ▸ tx_79__law_formula
  | 80, hi => Option.some.inj (show some f__law_body = some fn from hi) ▸ tx_80__law_body
  | 81, hi => Option.some.inj (show some f__law_defining = some fn from hi) ▸ tx_81__law_defining
  | 82, hi => Option.some.inj (show some f__law_caught = some fn from hi) ▸ tx_82__law_caught
  | 83, hi => Option.some.inj (show some f__law_odd_rules = some fn from hi) ▸ tx_83__law_odd_rules
  | 84, hi => Option.some.inj (show some f__law_bent = some fn from hi) ▸ tx_84__law_bent
  | 85, hi => Option.some.inj (show some f__law_right = some fn from hi) ▸ tx_85__law_right
  | 86, hi => Option.some.inj (show some f_law = some fn from hi) ▸ tx_86_law
  | _ + 87, hi => by simp [prg] at hi⟩
end OC

namespace OC
open PySem PySem.Spec PyProof.Rows L2
theorem gf_of {prog : Program} {w : World} {K : PySem.W.Frag} {h : Heap} {mg : Str → Option Value} (X : K.In h) (G : h.Ns mainGlobals mg) {C0 : Addr} {CE_InvalidDefining fI_InvalidDefining : Addr} {T0_YES : Addr} {d0_YES : Option Addr} {n0_YES : Nat} {s0_YES : Array (Option Value)} {t0_0_YES : Tok} {t_CALL : Tok} {T0_LISTS : Addr} {d0_LISTS : Option Addr} {n0_LISTS : Nat} {s0_LISTS : Array (Option Value)} {t0_0_LISTS : Tok} {t0_1_LISTS : Tok} {T0_QUANTIFIERS : Addr} {d0_QUANTIFIERS : Option Addr} {n0_QUANTIFIERS : Nat} {s0_QUANTIFIERS : Array (Option Value)} {t0_0_QUANTIFIERS : Tok} {t0_1_QUANTIFIERS : Tok}
    (b_len : PySem.W.nsIn K mainGlobals "len" = some none)
    (b_abs : PySem.W.nsIn K mainGlobals "abs" = some none)
    (b_int : PySem.W.nsIn K mainGlobals "int" = some none)
    (b_sum : PySem.W.nsIn K mainGlobals "sum" = some none)
    (b_all : PySem.W.nsIn K mainGlobals "all" = some none)
    (b_any : PySem.W.nsIn K mainGlobals "any" = some none)
    (b_tuple : PySem.W.nsIn K mainGlobals "tuple" = some none)
    (b_list : PySem.W.nsIn K mainGlobals "list" = some none)
    (b_max : PySem.W.nsIn K mainGlobals "max" = some none)
    (b_min : PySem.W.nsIn K mainGlobals "min" = some none)
    (b_isinstance : PySem.W.nsIn K mainGlobals "isinstance" = some none)
    (b_bool : PySem.W.nsIn K mainGlobals "bool" = some none)
    (b_str : PySem.W.nsIn K mainGlobals "str" = some none)
    (b_range : PySem.W.nsIn K mainGlobals "range" = some none)
    (b_zip : PySem.W.nsIn K mainGlobals "zip" = some none)
    (b_enumerate : PySem.W.nsIn K mainGlobals "enumerate" = some none)
    (b_repr : PySem.W.nsIn K mainGlobals "repr" = some none)
    (b_ValueError : PySem.W.nsIn K mainGlobals "ValueError" = some none)
    (b_gcd : PySem.W.nsIn K mainGlobals "gcd" = some (some (.builtin "math.gcd")))
    (c_YES : PySem.W.nsIn K mainGlobals "YES" = some (some (.ref T0_YES)))
    (l0_YES : K.lookup T0_YES = some ⟨.type "tuple", d0_YES, .seq #[.str ("yes" : Str) t0_0_YES] n0_YES, s0_YES⟩)
    (c_CALL : PySem.W.nsIn K mainGlobals "CALL" = some (some (.str ("call" : Str) t_CALL)))
    (c_LISTS : PySem.W.nsIn K mainGlobals "LISTS" = some (some (.ref T0_LISTS)))
    (l0_LISTS : K.lookup T0_LISTS = some ⟨.type "tuple", d0_LISTS, .seq #[.str ("both" : Str) t0_0_LISTS, .str ("either" : Str) t0_1_LISTS] n0_LISTS, s0_LISTS⟩)
    (c_QUANTIFIERS : PySem.W.nsIn K mainGlobals "QUANTIFIERS" = some (some (.ref T0_QUANTIFIERS)))
    (l0_QUANTIFIERS : K.lookup T0_QUANTIFIERS = some ⟨.type "tuple", d0_QUANTIFIERS, .seq #[.str ("some" : Str) t0_0_QUANTIFIERS, .str ("all" : Str) t0_1_QUANTIFIERS] n0_QUANTIFIERS, s0_QUANTIFIERS⟩)
    (x0 : ExfFact K "InvalidDefining" "part" "CompareError" (initS (topS 3)) C0 CE_InvalidDefining fI_InvalidDefining) (y0 : ExnFact K "InvalidDefining" C0)
    (s0_0 : PySem.W.subIn K (.ref C0) (.ref C0) = some true)
    : ∀ base : Heap, GF prg tab prog w K mg base := fun base =>
  { tab := fun i q hq => by
      have hq : (prg.map (fun f => (f.name, f.params)))[i]? = some q := hq
      rw [List.getElem?_map] at hq
      obtain ⟨fn, h1, h2⟩ := Option.map_eq_some_iff.mp hq
      subst h2
      exact ⟨fn, h1, rfl, rfl⟩
    blt := fun x hx => by
      simp only [blts, List.mem_cons, List.not_mem_nil, or_false] at hx
      rcases hx with rfl | rfl | rfl | rfl | rfl | rfl | rfl | rfl | rfl | rfl | rfl | rfl | rfl | rfl | rfl | rfl | rfl | rfl
      · exact PySem.W.mg_none_of X G b_len
      · exact PySem.W.mg_none_of X G b_abs
      · exact PySem.W.mg_none_of X G b_int
      · exact PySem.W.mg_none_of X G b_sum
      · exact PySem.W.mg_none_of X G b_all
      · exact PySem.W.mg_none_of X G b_any
      · exact PySem.W.mg_none_of X G b_tuple
      · exact PySem.W.mg_none_of X G b_list
      · exact PySem.W.mg_none_of X G b_max
      · exact PySem.W.mg_none_of X G b_min
      · exact PySem.W.mg_none_of X G b_isinstance
      · exact PySem.W.mg_none_of X G b_bool
      · exact PySem.W.mg_none_of X G b_str
      · exact PySem.W.mg_none_of X G b_range
      · exact PySem.W.mg_none_of X G b_zip
      · exact PySem.W.mg_none_of X G b_enumerate
      · exact PySem.W.mg_none_of X G b_repr
      · exact PySem.W.mg_none_of X G b_ValueError
    gcd := PySem.W.mg_of X G b_gcd
    gls := fun x d hx => by
      have hx : (x, d) ∈ ([("YES", (.tup [(.str ("yes" : Str))])), ("CALL", (.str ("call" : Str))), ("LISTS", (.tup [(.str ("both" : Str)), (.str ("either" : Str))])), ("QUANTIFIERS", (.tup [(.str ("some" : Str)), (.str ("all" : Str))]))] : List (Str × D)) := hx
      simp only [List.mem_cons, List.not_mem_nil, or_false, Prod.mk.injEq] at hx
      rcases hx with ⟨rfl, rfl⟩ | ⟨rfl, rfl⟩ | ⟨rfl, rfl⟩ | ⟨rfl, rfl⟩
      · have sq0_YES : ∀ H : Hp, SqT K H T0_YES [(.str ("yes" : Str))] := fun H => .inr ⟨_, _, _, l0_YES, rfl, rfl, by rw [sizeLine_eq]; exact Nat.le_of_ble_eq_true rfl, .cons ⟨_, rfl⟩ (.nil)⟩
        exact ⟨(.ref T0_YES), _, PySem.W.mg_of X G c_YES, rfl, fun _ H => ⟨T0_YES, _, rfl, (sq0_YES H), ⟨_, _, rfl, rfl, rfl⟩⟩⟩
      · exact ⟨(.str ("call" : Str)), _, PySem.W.mg_of X G c_CALL, ⟨_, rfl⟩, fun _ H => rfl⟩
      · have sq0_LISTS : ∀ H : Hp, SqT K H T0_LISTS [(.str ("both" : Str)), (.str ("either" : Str))] := fun H => .inr ⟨_, _, _, l0_LISTS, rfl, rfl, by rw [sizeLine_eq]; exact Nat.le_of_ble_eq_true rfl, .cons ⟨_, rfl⟩ (.cons ⟨_, rfl⟩ (.nil))⟩
        exact ⟨(.ref T0_LISTS), _, PySem.W.mg_of X G c_LISTS, rfl, fun _ H => ⟨T0_LISTS, _, rfl, (sq0_LISTS H), ⟨_, _, rfl, rfl, ⟨_, _, rfl, rfl, rfl⟩⟩⟩⟩
      · have sq0_QUANTIFIERS : ∀ H : Hp, SqT K H T0_QUANTIFIERS [(.str ("some" : Str)), (.str ("all" : Str))] := fun H => .inr ⟨_, _, _, l0_QUANTIFIERS, rfl, rfl, by rw [sizeLine_eq]; exact Nat.le_of_ble_eq_true rfl, .cons ⟨_, rfl⟩ (.cons ⟨_, rfl⟩ (.nil))⟩
        exact ⟨(.ref T0_QUANTIFIERS), _, PySem.W.mg_of X G c_QUANTIFIERS, rfl, fun _ H => ⟨T0_QUANTIFIERS, _, rfl, (sq0_QUANTIFIERS H), ⟨_, _, rfl, rfl, ⟨_, _, rfl, rfl, rfl⟩⟩⟩⟩
    kds := fun x t hx => by
      have hx : (x, t) ∈ ([] : List (Str × List (D × D))) := hx
      simp only [List.mem_cons, List.not_mem_nil, or_false, Prod.mk.injEq] at hx
    exf := fun x fl hx => by
      have hx : (x, fl) ∈ ([("InvalidDefining", "part")] : List (Str × Str)) := hx
      simp only [List.mem_cons, List.not_mem_nil, or_false, Prod.mk.injEq] at hx
      rcases hx with ⟨rfl, rfl⟩
      · exact ⟨_, exf_ok X G x0 (PySem.W.mg_none_of X G b_str)⟩
    exn := fun x hx => by
      have hx : x ∈ (["InvalidDefining"] : List Str) := hx
      simp only [List.mem_cons, List.not_mem_nil, or_false] at hx
      rcases hx with rfl
      · exact ⟨_, PySem.W.mg_of X G y0.a, y0.k, y0.b, y0.t⟩
    exc := fun x hx hno => by
      have hx : x ∈ (["InvalidDefining"] : List Str) := hx
      simp only [List.mem_cons, List.not_mem_nil, or_false] at hx
      rcases hx with rfl
      · exact (hno "part" (by simp [tab])).elim
    exm := fun x hx y hy E F h1 h2 => by
      have hx : x ∈ (["InvalidDefining"] : List Str) := hx
      have hy : y ∈ (["InvalidDefining"] : List Str) := hy
      simp only [List.mem_cons, List.not_mem_nil, or_false] at hx hy
      rcases hx with rfl
      · have e1 := (PySem.W.mg_of X G y0.a).symm.trans h1
        cases e1
        rcases hy with rfl
        · have e2 := (PySem.W.mg_of X G y0.a).symm.trans h2
          cases e2
          exact exm_pair y0.b y0.i y0.t s0_0
  }
end OC
open PySem PySem.W PyProof.Rows
set_option maxRecDepth 100000 in
set_option maxHeartbeats 0 in
theorem PySem.Challenge.cw_onlycompared_k90_definings_judged_holds : PySem.Challenge.rw_onlycompared_k90_definings_judged.Holds := by
  w_on; o_law; k_head; (case hw => w_witness2)
  k_fill
  first
  | refine OC.walk83 (l := PySem.Challenge.rw_onlycompared_k90_definings_judged) (n := 43) rfl rfl ⟨rfl, by decide, by decide⟩ (fun w h Y => PySem.W.kIn_of Y) ?F
  | refine OC.walk83 (l := PySem.Challenge.rw_onlycompared_k90_definings_judged) (n := 43) rfl rfl ⟨rfl, by decide, by decide⟩ (fun w h Y => PySem.W.km_in_of Y) ?F
  case F =>
    intro w mg fa h KX GN hmg
    refine' OC.law_fn (n := 39) (i := 86) KX GN (OC.gf_of KX GN ?b_len ?b_abs ?b_int ?b_sum ?b_all ?b_any ?b_tuple ?b_list ?b_max ?b_min ?b_isinstance ?b_bool ?b_str ?b_range ?b_zip ?b_enumerate ?b_repr ?b_ValueError ?b_gcd ?c_YES ?l0_YES ?c_CALL ?c_LISTS ?l0_LISTS ?c_QUANTIFIERS ?l0_QUANTIFIERS ⟨?fa0, OC.oexc_mk ?fc0 ?fs0 ?fx0 ?ft0 ?fk0, ⟨?fg0, ?fh0, ?fx0, ?fd0⟩, ?fn0, ?fi0, ?fu0, ⟨"InvalidDefining.__init__", _, OC.fun_ini ?fl0 ?fm0 ?fo0, (OC.fun_ini ?fl0 ?fm0 ?fo0).binds (OC.pbi_InvalidDefining "InvalidDefining.__init__")⟩, ?fb0, ?fr0, ?fp0, ?fe0, OC.cki_InvalidDefining⟩ ⟨?ya0, ?yk0, ?yb0, ?yt0, ?yi0⟩ ?s0_0) OC.txt ?A rfl rfl hmg OC.PL
    (case b_len => k_is); (case b_abs => k_is); (case b_int => k_is); (case b_sum => k_is); (case b_all => k_is); (case b_any => k_is); (case b_tuple => k_is); (case b_list => k_is); (case b_max => k_is); (case b_min => k_is); (case b_isinstance => k_is); (case b_bool => k_is); (case b_str => k_is); (case b_range => k_is); (case b_zip => k_is); (case b_enumerate => k_is); (case b_repr => k_is); (case b_ValueError => k_is); (case b_gcd => k_is); (case c_YES => k_is); (case c_CALL => k_is); (case c_LISTS => k_is); (case c_QUANTIFIERS => k_is); (case l0_YES => k_is); (case l0_LISTS => k_is); (case l0_QUANTIFIERS => k_is)
    (case fa0 => k_is)
    (case fc0 => k_is)
    (case fs0 => k_is)
    (case fx0 => k_is)
    (case ft0 => k_is)
    (case fk0 => k_is)
    (case fg0 => k_is)
    (case fh0 => k_is)
    (case fd0 => k_is)
    (case fn0 => k_is)
    (case fi0 => k_is)
    (case fu0 => k_is)
    (case fl0 => k_is)
    (case fm0 => k_is)
    (case fo0 => k_is)
    (case fb0 => k_is)
    (case fr0 => k_is)
    (case fp0 => k_is)
    (case fe0 => k_is)
    (case ya0 => k_is); (case yk0 => k_is); (case yb0 => k_is); (case yt0 => k_is); (case yi0 => k_is)
    (case s0_0 => first | rfl | k_is)
    case A =>
      refine' ⟨OC.fnfact (x := "is_integer") (st := OC.topS 5) ?a ?l ?c ?k, ?_⟩; (case a => k_is); (case l => k_is); (case c => k_is); (case k => k_is)
      refine' ⟨OC.fnfact (x := "is_from") (st := OC.topS 6) ?a ?l ?c ?k, ?_⟩; (case a => k_is); (case l => k_is); (case c => k_is); (case k => k_is)
      refine' ⟨OC.fnfact (x := "is_below") (st := OC.topS 7) ?a ?l ?c ?k, ?_⟩; (case a => k_is); (case l => k_is); (case c => k_is); (case k => k_is)
      refine' ⟨OC.fnfact (x := "is_tuple") (st := OC.topS 8) ?a ?l ?c ?k, ?_⟩; (case a => k_is); (case l => k_is); (case c => k_is); (case k => k_is)
      refine' ⟨OC.fnfact (x := "is_integer") (st := OC.topS 5) ?a ?l ?c ?k, ?_⟩; (case a => k_is); (case l => k_is); (case c => k_is); (case k => k_is)
      refine' ⟨OC.fnfact (x := "is_number") (st := OC.topS 10) ?a ?l ?c ?k, ?_⟩; (case a => k_is); (case l => k_is); (case c => k_is); (case k => k_is)
      refine' ⟨OC.fnfact (x := "ahead") (st := OC.topS 17) ?a ?l ?c ?k, ?_⟩; (case a => k_is); (case l => k_is); (case c => k_is); (case k => k_is)
      refine' ⟨OC.fnfact (x := "is_integer") (st := OC.topS 5) ?a ?l ?c ?k, ?_⟩; (case a => k_is); (case l => k_is); (case c => k_is); (case k => k_is)
      refine' ⟨OC.fnfact (x := "is_integer") (st := OC.topS 5) ?a ?l ?c ?k, ?_⟩; (case a => k_is); (case l => k_is); (case c => k_is); (case k => k_is)
      refine' ⟨OC.fnfact (x := "is_integer") (st := OC.topS 5) ?a ?l ?c ?k, ?_⟩; (case a => k_is); (case l => k_is); (case c => k_is); (case k => k_is)
      refine' ⟨OC.fnfact (x := "is_integer") (st := OC.topS 5) ?a ?l ?c ?k, ?_⟩; (case a => k_is); (case l => k_is); (case c => k_is); (case k => k_is)
      refine' ⟨OC.fnfact (x := "is_integer") (st := OC.topS 5) ?a ?l ?c ?k, ?_⟩; (case a => k_is); (case l => k_is); (case c => k_is); (case k => k_is)
      refine' ⟨OC.fnfact (x := "is_integer") (st := OC.topS 5) ?a ?l ?c ?k, ?_⟩; (case a => k_is); (case l => k_is); (case c => k_is); (case k => k_is)
      refine' ⟨OC.fnfact (x := "is_integer") (st := OC.topS 5) ?a ?l ?c ?k, ?_⟩; (case a => k_is); (case l => k_is); (case c => k_is); (case k => k_is)
      refine' ⟨OC.fnfact (x := "is_integer") (st := OC.topS 5) ?a ?l ?c ?k, ?_⟩; (case a => k_is); (case l => k_is); (case c => k_is); (case k => k_is)
      refine' ⟨OC.fnfact (x := "is_integer") (st := OC.topS 5) ?a ?l ?c ?k, ?_⟩; (case a => k_is); (case l => k_is); (case c => k_is); (case k => k_is)
      refine' ⟨OC.fnfact (x := "_law_source") (st := OC.topS 67) ?a ?l ?c ?k, ?_⟩; (case a => k_is); (case l => k_is); (case c => k_is); (case k => k_is)
      refine' ⟨OC.fnfact (x := "_law_draw") (st := OC.topS 68) ?a ?l ?c ?k, ?_⟩; (case a => k_is); (case l => k_is); (case c => k_is); (case k => k_is)
      refine' ⟨OC.fnfact (x := "_law_pick") (st := OC.topS 69) ?a ?l ?c ?k, ?_⟩; (case a => k_is); (case l => k_is); (case c => k_is); (case k => k_is)
      refine' ⟨OC.fnfact (x := "_law_same") (st := OC.topS 70) ?a ?l ?c ?k, ?_⟩; (case a => k_is); (case l => k_is); (case c => k_is); (case k => k_is)
      refine' ⟨OC.fnfact (x := "_law_ahead") (st := OC.topS 71) ?a ?l ?c ?k, ?_⟩; (case a => k_is); (case l => k_is); (case c => k_is); (case k => k_is)
      refine' ⟨OC.fnfact (x := "_law_low") (st := OC.topS 72) ?a ?l ?c ?k, ?_⟩; (case a => k_is); (case l => k_is); (case c => k_is); (case k => k_is)
      refine' ⟨OC.fnfact (x := "_law_sorted") (st := OC.topS 73) ?a ?l ?c ?k, ?_⟩; (case a => k_is); (case l => k_is); (case c => k_is); (case k => k_is)
      refine' ⟨OC.fnfact (x := "_law_number") (st := OC.topS 74) ?a ?l ?c ?k, ?_⟩; (case a => k_is); (case l => k_is); (case c => k_is); (case k => k_is)
      refine' ⟨OC.fnfact (x := "_law_constants") (st := OC.topS 75) ?a ?l ?c ?k, ?_⟩; (case a => k_is); (case l => k_is); (case c => k_is); (case k => k_is)
      refine' ⟨OC.fnfact (x := "is_integer") (st := OC.topS 5) ?a ?l ?c ?k, ?_⟩; (case a => k_is); (case l => k_is); (case c => k_is); (case k => k_is)
      refine' ⟨OC.fnfact (x := "is_integer") (st := OC.topS 5) ?a ?l ?c ?k, ?_⟩; (case a => k_is); (case l => k_is); (case c => k_is); (case k => k_is)
      refine' ⟨OC.fnfact (x := "is_integer") (st := OC.topS 5) ?a ?l ?c ?k, ?_⟩; (case a => k_is); (case l => k_is); (case c => k_is); (case k => k_is)
      refine' ⟨OC.fnfact (x := "is_integer") (st := OC.topS 5) ?a ?l ?c ?k, ?_⟩; (case a => k_is); (case l => k_is); (case c => k_is); (case k => k_is)
      refine' ⟨OC.fnfact (x := "is_integer") (st := OC.topS 5) ?a ?l ?c ?k, ?_⟩; (case a => k_is); (case l => k_is); (case c => k_is); (case k => k_is)
      refine' ⟨OC.fnfact (x := "is_integer") (st := OC.topS 5) ?a ?l ?c ?k, ?_⟩; (case a => k_is); (case l => k_is); (case c => k_is); (case k => k_is)
      refine' ⟨OC.fnfact (x := "is_integer") (st := OC.topS 5) ?a ?l ?c ?k, ?_⟩; (case a => k_is); (case l => k_is); (case c => k_is); (case k => k_is)
      refine' ⟨OC.fnfact (x := "lowest") (st := OC.topS 11) ?a ?l ?c ?k, ?_⟩; (case a => k_is); (case l => k_is); (case c => k_is); (case k => k_is)
      refine' ⟨OC.fnfact (x := "plus_in") (st := OC.topS 12) ?a ?l ?c ?k, ?_⟩; (case a => k_is); (case l => k_is); (case c => k_is); (case k => k_is)
      refine' ⟨OC.fnfact (x := "minus_in") (st := OC.topS 13) ?a ?l ?c ?k, ?_⟩; (case a => k_is); (case l => k_is); (case c => k_is); (case k => k_is)
      refine' ⟨OC.fnfact (x := "times_in") (st := OC.topS 14) ?a ?l ?c ?k, ?_⟩; (case a => k_is); (case l => k_is); (case c => k_is); (case k => k_is)
      refine' ⟨OC.fnfact (x := "over_in") (st := OC.topS 15) ?a ?l ?c ?k, ?_⟩; (case a => k_is); (case l => k_is); (case c => k_is); (case k => k_is)
      refine' ⟨OC.fnfact (x := "in_sequence") (st := OC.topS 16) ?a ?l ?c ?k, ?_⟩; (case a => k_is); (case l => k_is); (case c => k_is); (case k => k_is)
      refine' ⟨OC.fnfact (x := "is_term") (st := OC.topS 18) ?a ?l ?c ?k, ?_⟩; (case a => k_is); (case l => k_is); (case c => k_is); (case k => k_is)
      refine' ⟨OC.fnfact (x := "term_worth") (st := OC.topS 19) ?a ?l ?c ?k, ?_⟩; (case a => k_is); (case l => k_is); (case c => k_is); (case k => k_is)
      refine' ⟨OC.fnfact (x := "together") (st := OC.topS 20) ?a ?l ?c ?k, ?_⟩; (case a => k_is); (case l => k_is); (case c => k_is); (case k => k_is)
      refine' ⟨OC.fnfact (x := "middle_in") (st := OC.topS 21) ?a ?l ?c ?k, ?_⟩; (case a => k_is); (case l => k_is); (case c => k_is); (case k => k_is)
      refine' ⟨OC.fnfact (x := "pairs_below") (st := OC.topS 23) ?a ?l ?c ?k, ?_⟩; (case a => k_is); (case l => k_is); (case c => k_is); (case k => k_is)
      refine' ⟨OC.fnfact (x := "heights") (st := OC.topS 24) ?a ?l ?c ?k, ?_⟩; (case a => k_is); (case l => k_is); (case c => k_is); (case k => k_is)
      refine' ⟨OC.fnfact (x := "raised") (st := OC.topS 25) ?a ?l ?c ?k, ?_⟩; (case a => k_is); (case l => k_is); (case c => k_is); (case k => k_is)
      refine' ⟨OC.fnfact (x := "extended") (st := OC.topS 26) ?a ?l ?c ?k, ?_⟩; (case a => k_is); (case l => k_is); (case c => k_is); (case k => k_is)
      refine' ⟨OC.fnfact (x := "cells_in") (st := OC.topS 27) ?a ?l ?c ?k, ?_⟩; (case a => k_is); (case l => k_is); (case c => k_is); (case k => k_is)
      refine' ⟨OC.fnfact (x := "slot_of") (st := OC.topS 28) ?a ?l ?c ?k, ?_⟩; (case a => k_is); (case l => k_is); (case c => k_is); (case k => k_is)
      refine' ⟨OC.fnfact (x := "cell_in") (st := OC.topS 29) ?a ?l ?c ?k, ?_⟩; (case a => k_is); (case l => k_is); (case c => k_is); (case k => k_is)
      refine' ⟨OC.fnfact (x := "number_at") (st := OC.topS 30) ?a ?l ?c ?k, ?_⟩; (case a => k_is); (case l => k_is); (case c => k_is); (case k => k_is)
      refine' ⟨OC.fnfact (x := "sample_in") (st := OC.topS 31) ?a ?l ?c ?k, ?_⟩; (case a => k_is); (case l => k_is); (case c => k_is); (case k => k_is)
      refine' ⟨OC.fnfact (x := "ways_in") (st := OC.topS 32) ?a ?l ?c ?k, ?_⟩; (case a => k_is); (case l => k_is); (case c => k_is); (case k => k_is)
      refine' ⟨OC.fnfact (x := "renamed_pairs") (st := OC.topS 33) ?a ?l ?c ?k, ?_⟩; (case a => k_is); (case l => k_is); (case c => k_is); (case k => k_is)
      refine' ⟨OC.fnfact (x := "finer_in") (st := OC.topS 34) ?a ?l ?c ?k, ?_⟩; (case a => k_is); (case l => k_is); (case c => k_is); (case k => k_is)
      refine' ⟨OC.fnfact (x := "coarser_in") (st := OC.topS 35) ?a ?l ?c ?k, ?_⟩; (case a => k_is); (case l => k_is); (case c => k_is); (case k => k_is)
      refine' ⟨OC.fnfact (x := "candidates") (st := OC.topS 36) ?a ?l ?c ?k, ?_⟩; (case a => k_is); (case l => k_is); (case c => k_is); (case k => k_is)
      refine' ⟨OC.fnfact (x := "finer_table_in") (st := OC.topS 38) ?a ?l ?c ?k, ?_⟩; (case a => k_is); (case l => k_is); (case c => k_is); (case k => k_is)
      refine' ⟨OC.fnfact (x := "left_out") (st := OC.topS 39) ?a ?l ?c ?k, ?_⟩; (case a => k_is); (case l => k_is); (case c => k_is); (case k => k_is)
      refine' ⟨OC.fnfact (x := "least_in") (st := OC.topS 40) ?a ?l ?c ?k, ?_⟩; (case a => k_is); (case l => k_is); (case c => k_is); (case k => k_is)
      refine' ⟨OC.fnfact (x := "is_formula_in") (st := OC.topS 43) ?a ?l ?c ?k, ?_⟩; (case a => k_is); (case l => k_is); (case c => k_is); (case k => k_is)
      refine' ⟨OC.fnfact (x := "parts_of") (st := OC.topS 44) ?a ?l ?c ?k, ?_⟩; (case a => k_is); (case l => k_is); (case c => k_is); (case k => k_is)
      refine' ⟨OC.fnfact (x := "numbers_in") (st := OC.topS 45) ?a ?l ?c ?k, ?_⟩; (case a => k_is); (case l => k_is); (case c => k_is); (case k => k_is)
      refine' ⟨OC.fnfact (x := "true_by") (st := OC.topS 46) ?a ?l ?c ?k, ?_⟩; (case a => k_is); (case l => k_is); (case c => k_is); (case k => k_is)
      refine' ⟨OC.fnfact (x := "is_call") (st := OC.topS 51) ?a ?l ?c ?k, ?_⟩; (case a => k_is); (case l => k_is); (case c => k_is); (case k => k_is)
      refine' ⟨OC.fnfact (x := "is_body") (st := OC.topS 52) ?a ?l ?c ?k, ?_⟩; (case a => k_is); (case l => k_is); (case c => k_is); (case k => k_is)
      refine' ⟨OC.fnfact (x := "is_rule") (st := OC.topS 53) ?a ?l ?c ?k, ?_⟩; (case a => k_is); (case l => k_is); (case c => k_is); (case k => k_is)
      refine' ⟨OC.fnfact (x := "defining_fault") (st := OC.topS 54) ?a ?l ?c ?k, ?_⟩; (case a => k_is); (case l => k_is); (case c => k_is); (case k => k_is)
      refine' ⟨OC.fnfact (x := "is_defining") (st := OC.topS 55) ?a ?l ?c ?k, ?_⟩; (case a => k_is); (case l => k_is); (case c => k_is); (case k => k_is)
      refine' ⟨OC.fnfact (x := "check_defining") (st := OC.topS 56) ?a ?l ?c ?k, ?_⟩; (case a => k_is); (case l => k_is); (case c => k_is); (case k => k_is)
      refine' ⟨OC.fnfact (x := "numbers_of") (st := OC.topS 57) ?a ?l ?c ?k, ?_⟩; (case a => k_is); (case l => k_is); (case c => k_is); (case k => k_is)
      refine' ⟨OC.fnfact (x := "constants_of") (st := OC.topS 58) ?a ?l ?c ?k, ?_⟩; (case a => k_is); (case l => k_is); (case c => k_is); (case k => k_is)
      refine' ⟨OC.fnfact (x := "body_holds") (st := OC.topS 59) ?a ?l ?c ?k, ?_⟩; (case a => k_is); (case l => k_is); (case c => k_is); (case k => k_is)
      refine' ⟨OC.fnfact (x := "steps_in") (st := OC.topS 60) ?a ?l ?c ?k, ?_⟩; (case a => k_is); (case l => k_is); (case c => k_is); (case k => k_is)
      refine' ⟨OC.fnfact (x := "taken_on") (st := OC.topS 61) ?a ?l ?c ?k, ?_⟩; (case a => k_is); (case l => k_is); (case c => k_is); (case k => k_is)
      refine' ⟨OC.fnfact (x := "grown_lots") (st := OC.topS 62) ?a ?l ?c ?k, ?_⟩; (case a => k_is); (case l => k_is); (case c => k_is); (case k => k_is)
      refine' ⟨OC.fnfact (x := "least_tables") (st := OC.topS 63) ?a ?l ?c ?k, ?_⟩; (case a => k_is); (case l => k_is); (case c => k_is); (case k => k_is)
      refine' ⟨OC.fnfact (x := "rounds") (st := OC.topS 64) ?a ?l ?c ?k, ?_⟩; (case a => k_is); (case l => k_is); (case c => k_is); (case k => k_is)
      refine' ⟨OC.fnfact (x := "satisfy") (st := OC.topS 65) ?a ?l ?c ?k, ?_⟩; (case a => k_is); (case l => k_is); (case c => k_is); (case k => k_is)
      refine' ⟨OC.fnfact (x := "_law_term") (st := OC.topS 76) ?a ?l ?c ?k, ?_⟩; (case a => k_is); (case l => k_is); (case c => k_is); (case k => k_is)
      refine' ⟨OC.fnfact (x := "_law_formula") (st := OC.topS 77) ?a ?l ?c ?k, ?_⟩; (case a => k_is); (case l => k_is); (case c => k_is); (case k => k_is)
      refine' ⟨OC.fnfact (x := "_law_body") (st := OC.topS 78) ?a ?l ?c ?k, ?_⟩; (case a => k_is); (case l => k_is); (case c => k_is); (case k => k_is)
      refine' ⟨OC.fnfact (x := "_law_defining") (st := OC.topS 79) ?a ?l ?c ?k, ?_⟩; (case a => k_is); (case l => k_is); (case c => k_is); (case k => k_is)
      refine' ⟨OC.fnfact (x := "_law_caught") (st := OC.topS 80) ?a ?l ?c ?k, ?_⟩; (case a => k_is); (case l => k_is); (case c => k_is); (case k => k_is)
      refine' ⟨OC.fnfact (x := "_law_odd_rules") (st := OC.topS 81) ?a ?l ?c ?k, ?_⟩; (case a => k_is); (case l => k_is); (case c => k_is); (case k => k_is)
      refine' ⟨OC.fnfact (x := "_law_bent") (st := OC.topS 82) ?a ?l ?c ?k, ?_⟩; (case a => k_is); (case l => k_is); (case c => k_is); (case k => k_is)
      refine' ⟨OC.fnfact (x := "_law_right") (st := OC.topS 83) ?a ?l ?c ?k, ?_⟩; (case a => k_is); (case l => k_is); (case c => k_is); (case k => k_is)
      refine' ⟨OC.fnfact (x := "law") (st := OC.topS 84) ?a ?l ?c ?k, ?_⟩; (case a => k_is); (case l => k_is); (case c => k_is); (case k => k_is)
      exact True.intro
#print axioms PySem.Challenge.cw_onlycompared_k90_definings_judged_holds

