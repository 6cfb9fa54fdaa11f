import PyProof.Rows.All
import Wide.All
import OpenK.AllK
import Wide.FinOn
import HandS.ForMost
import HandS.IsInst
import HandS.TupAny
import HandS.Style
import HandS.SortInts
import HandS.Wide
import HandS.WideBits
import HandS.Conv
import HandS.Exc
import HandS.Defaults
import HandS.WordsExc
import HandS.Set
import HandS.Iter
import HandS.Comp
import HandS.ExcSuper
import HandS.Head0
import HandS.Head1
import HandS.Head2
import HandS.HeadEnd
import HandS.HeadHook1
import HandS.HeadHook2
import HandS.Text
import KE.KIntText
import PySem.Challenge.RW_neverrunaway_k59_whole_teeth_that_meet
section
set_option Elab.async false
set_option linter.all false
set_option maxRecDepth 100000
set_option maxHeartbeats 4000000
/-! A small language over plain data: what the law's text does, as a function. -/
namespace Mi
open PySem L2

/-- a value: deep where nothing changes, a place in the store else -/
inductive D where
  | non | bl (b : Bool) | int (i : Int) | str (x : Str) | tup (xs : List D) | frz (xs : List D) | ref (n : Nat)
/-- what stands in the store -/
inductive SO where
  | lst (xs : List D)
  | dct (kvs : List (Key × D))
abbrev Sto := List SO
abbrev Loc := List (Option D)
inductive R (α : Type) where
  | ok (a : α) (S : Sto)
  | ex (c : Nat) (v : D) (S : Sto)
def bnd {α β : Type} (x : Option (R α)) (k : α → Sto → Option (R β)) : Option (R β) := match x with
  | some (.ok a S) => k a S
  | some (.ex c v S) => some (.ex c v S)
  | none => none
@[simp] theorem bnd_ok {α β : Type} (a : α) (S : Sto) (k : α → Sto → Option (R β)) : bnd (some (.ok a S)) k = k a S := rfl
@[simp] theorem bnd_none {α β : Type} (k : α → Sto → Option (R β)) : bnd none k = none := rfl

mutual
def D.beq : D → D → Bool
  | .non, .non => true
  | .bl a, .bl b => a == b
  | .int i, .int j => i == j
  | .str x, .str y => decide (x = y)
  | .tup xs, .tup ys => D.beqs xs ys
  | .frz xs, .frz ys => D.beqs xs ys
  | .ref n, .ref k => n == k
  | _, _ => false
def D.beqs : List D → List D → Bool
  | [], [] => true
  | x :: xs, y :: ys => D.beq x y && D.beqs xs ys
  | _, _ => false
end
mutual
theorem D.beq_eq : ∀ x y : D, D.beq x y = true → x = y := by
  intro x y h
  cases x <;> cases y <;> simp [D.beq] at h <;> try (first | rfl | (subst h; rfl))
  · exact congrArg D.tup (D.beqs_eq _ _ h)
  · exact congrArg D.frz (D.beqs_eq _ _ h)
theorem D.beqs_eq : ∀ xs ys : List D, D.beqs xs ys = true → xs = ys
  | [], [], _ => rfl
  | x :: xs, y :: ys, h => by
    simp [D.beqs] at h
    rw [D.beq_eq x y h.1, D.beqs_eq xs ys h.2]
  | [], _ :: _, h => by simp [D.beqs] at h
  | _ :: _, [], h => by simp [D.beqs] at h
end
mutual
theorem D.beq_refl : ∀ x : D, D.beq x x = true
  | .non => rfl
  | .bl a => by simp [D.beq]
  | .int i => by simp [D.beq]
  | .str x => by simp [D.beq]
  | .tup xs => by simp [D.beq, D.beqs_refl xs]
  | .frz xs => by simp [D.beq, D.beqs_refl xs]
  | .ref n => by simp [D.beq]
theorem D.beqs_refl : ∀ xs : List D, D.beqs xs xs = true
  | [] => rfl
  | x :: xs => by simp [D.beqs, D.beq_refl x, D.beqs_refl xs]
end

inductive Op2 where
  | add | sub | mul | fdiv | mod | pow
  deriving DecidableEq
inductive Cm where
  | lt | le | gt | ge | eq | ne | isN | notN | isIn | notIn
  deriving DecidableEq
inductive Bi where
  | len | int | abs | min2 | max2 | isi (t : String) | repr | str | all | any | sum | lst | tuple | sset | rng | rng1
inductive Ik where
  | seq | rng1 | rng2 | rng3
/-- what is assigned to: a slot, or a tuple of slots -/
inductive Tg where
  | one (i : Nat) | tup (is : List Nat)
def Tg.ix : Tg → List Nat
  | .one i => [i]
  | .tup is => is
inductive E where
  | var (i : Nat)
  | lit (d : D)
  | glb (k : Nat)
  | tup (es : List E)
  | lst (es : List E)
  | dic (ks : List Str) (es : List E)
  | op (o : Op2) (a b : E)
  | neg (a : E)
  | cmp (c : Cm) (a b : E)
  | chain (c1 c2 : Cm) (a b c : E)
  | and (es : List E)
  | or (es : List E)
  | not (a : E)
  | ite (c a b : E)
  | ix (a b : E)
  | slc (a : E) (lo hi : Option E)
  | rev (a : E)
  | call (f : Nat) (es : List E)
  | bi (b : Bi) (es : List E)
  | ext (a b : E)
  | app (a b : E)
  | lc (vs : List Nat) (t : Tg) (k : Ik) (its : List E) (cs : List E) (elt : E)
inductive Sm where
  | asg (t : Tg) (e : E)
  | setIx (o i e : E)
  | expr (e : E)
  | ret (e : E)
  | ite (c : E) (a b : List Sm)
  | for_ (t : Tg) (k : Ik) (its : List E) (body : List Sm)
  | whl (c : E) (body : List Sm)
  | never

/-! ### plain data -/
def tkey : Key → PyData
  | .inl i => .int i
  | .inr x => .str x
mutual
/-- a value as the library's data; f opens the store's objects -/
def toPyW (f : Nat → Option PyData) : D → Option PyData
  | .non => some .none
  | .bl b => some (.bool b)
  | .int i => some (.int i)
  | .str x => some (.str x)
  | .tup xs => (toPysW f xs).map .tuple
  | .frz xs => (toPysW f xs).map .list
  | .ref r => f r
def toPysW (f : Nat → Option PyData) : List D → Option (List PyData)
  | [] => some []
  | x :: xs => (toPyW f x).bind fun p => (toPysW f xs).map fun ps => p :: ps
end
def toPyR (S : Sto) : Nat → Nat → Option PyData
  | 0, _ => none
  | n + 1, r => match S[r]? with
    | some (.lst xs) => (toPysW (toPyR S n) xs).map .list
    | some (.dct kvs) => (toPysW (toPyR S n) (kvs.map (·.2))).map fun ps => .dict ((kvs.map fun q => tkey q.1).zip ps)
    | none => none
def toPy (S : Sto) (d : D) : Option PyData := toPyW (toPyR S 8) d
def toPys (S : Sto) (ds : List D) : Option (List PyData) := toPysW (toPyR S 8) ds

/-! ### operations -/
def flat : D → Bool
  | .non => true
  | .bl _ => true
  | .int _ => true
  | .str _ => true
  | _ => false
/-- a flat value, as the layer has it -/
def fV : D → V
  | .bl b => .bl b
  | .int i => .int i
  | .str x => .str x
  | _ => .non
def mulOk (i j : Int) : Prop := (-(2 ^ 64) < i ∧ i < 2 ^ 64) ∨ (-(2 ^ 64) < j ∧ j < 2 ^ 64) ∨ (-(2 ^ 4096) < i ∧ i < 2 ^ 4096 ∧ -(2 ^ 4096) < j ∧ j < 2 ^ 4096)
instance (i j : Int) : Decidable (mulOk i j) := by unfold mulOk; exact inferInstance
def powOk (i j : Int) : Prop := 0 ≤ j ∧ j ≤ 1000 ∧ -(2 ^ 4096) < i ∧ i < 2 ^ 4096
instance (i j : Int) : Decidable (powOk i j) := by unfold powOk; exact inferInstance
def lstAt (S : Sto) (r : Nat) : Option (List D) := match S[r]? with
  | some (.lst xs) => some xs
  | _ => none
def opD (S : Sto) : Op2 → D → D → Option (D × Sto)
  | .add, .int i, .int j => some (.int (i + j), S)
  | .add, .str x, .str y => if x.length + y.length ≤ sizeLine then some (.str (x ++ y), S) else none
  | .add, .tup xs, .tup ys => if xs.length + ys.length ≤ sizeLine then some (.tup (xs ++ ys), S) else none
  | .add, .ref a, .ref b => match S[a]?, S[b]? with
    | some (.lst xs), some (.lst ys) => if xs.length + ys.length ≤ sizeLine then some (.ref S.length, S ++ [.lst (xs ++ ys)]) else none
    | _, _ => none
  | .sub, .int i, .int j => some (.int (i - j), S)
  | .mul, .int i, .int j => if mulOk i j then some (.int (i * j), S) else none
  | .fdiv, .int i, .int j => if 0 < j ∧ j < 2 ^ 4096 then some (.int (i / j), S) else none
  | .mod, .int i, .int j => if 0 < j then some (.int (i % j), S) else none
  | .pow, .int i, .int j => if powOk i j then some (.int (i ^ j.toNat), S) else none
  | _, _, _ => none
def eqD (S : Sto) (x y : D) : Option Bool := match x, y with
  | .str a, .str b => some (decide (a = b))
  | _, _ => (toPy S x).bind fun p => (toPy S y).bind fun q => if (SeqAt.shaped p && SeqAt.shaped q) = true then some (PyData.eqv p q) else none
def inD (x : D) (ys : List D) : Option Bool := if (flat x && ys.all flat) = true then some (inV (fV x) (ys.map fV)) else none
def seqAt (S : Sto) : D → Option (List D)
  | .tup xs => some xs
  | .frz xs => some xs
  | .ref r => lstAt S r
  | _ => none
def isNonD : D → Bool
  | .non => true
  | _ => false
def cmpD (S : Sto) : Cm → D → D → Option Bool
  | .lt, .int i, .int j => some (decide (i < j))
  | .le, .int i, .int j => some (decide (i ≤ j))
  | .gt, .int i, .int j => some (decide (j < i))
  | .ge, .int i, .int j => some (decide (j ≤ i))
  | .eq, x, y => eqD S x y
  | .ne, x, y => (eqD S x y).map fun b => !b
  | .isN, x, .non => some (isNonD x)
  | .notN, x, .non => some (!isNonD x)
  | .isIn, x, y => (seqAt S y).bind (inD x)
  | .notIn, x, y => ((seqAt S y).bind (inD x)).map fun b => !b
  | _, _, _ => none
def ixD (S : Sto) : D → D → Option D
  | .str z, .int i => if z.length ≤ sizeLine then (atI z.cps.toList i).map fun c => .str ⟨#[c]⟩ else none
  | x, .int i => (seqAt S x).bind fun xs => atI xs i
  | _, _ => none
def cutD (xs : List D) (lo hi : Option Int) : List D := (xs.drop (HT.sIx xs.length 0 lo)).take (HT.sIx xs.length xs.length hi - HT.sIx xs.length 0 lo)
def slcD (S : Sto) : D → Option Int → Option Int → Option (D × Sto)
  | .tup xs, lo, hi => some (.tup (cutD xs lo hi), S)
  | .frz xs, lo, hi => some (.ref S.length, S ++ [.lst (cutD xs lo hi)])
  | .ref r, lo, hi => (lstAt S r).map fun xs => (.ref S.length, S ++ [.lst (cutD xs lo hi)])
  | _, _, _ => none
def revD (S : Sto) : D → Option (D × Sto)
  | .tup xs => some (.tup xs.reverse, S)
  | _ => none
def tyD (S : Sto) : D → Option String
  | .non => some "NoneType"
  | .bl _ => some "bool"
  | .int _ => some "int"
  | .str _ => some "str"
  | .tup _ => some "tuple"
  | .frz _ => some "list"
  | .ref r => match S[r]? with
    | some (.lst _) => some "list"
    | some (.dct _) => some "dict"
    | none => none
def isiD (S : Sto) (t : String) (d : D) : Option Bool := (tyD S d).bind fun a => kitB a t
def reprD (S : Sto) (d : D) : Option Str := (toPy S d).bind fun p => if p.showable = true ∧ p.depth ≤ 40 ∧ p.shown.length ≤ sizeLine then some p.shown else none
def blsOf : List D → Option (List Bool)
  | [] => some []
  | .bl b :: r => (blsOf r).map fun bs => b :: bs
  | _ :: _ => none
def intsOf : List D → Option (List Int)
  | [] => some []
  | .int i :: r => (intsOf r).map fun is => i :: is
  | _ :: _ => none
/-- laid in its place, once -/
def insU (x : Int) : List Int → List Int
  | [] => [x]
  | y :: ys => if x < y then x :: y :: ys else if x = y then y :: ys else y :: insU x ys
def ssetI (is : List Int) : List Int := is.foldr insU []
def rgD (a b : Int) : List D := (List.range (b - a).toNat).map fun (i : Nat) => D.int (a + (i : Int))
def rgOk (a b : Int) : Prop := -(2 ^ 62) ≤ a ∧ a < 2 ^ 62 ∧ -(2 ^ 62) ≤ b ∧ b < 2 ^ 62 ∧ (b - a).toNat ≤ 2 ^ 24
instance (i j : Int) : Decidable (rgOk i j) := by unfold rgOk; exact inferInstance
def biD (S : Sto) : Bi → List D → Option (D × Sto)
  | .len, [.str z] => if z.length ≤ sizeLine then some (.int z.length, S) else none
  | .len, [x] => (seqAt S x).map fun xs => (.int xs.length, S)
  | .int, [.int i] => some (.int i, S)
  | .int, [.bl b] => some (.int (if b then 1 else 0), S)
  | .abs, [.int i] => some (.int (if i < 0 then -i else i), S)
  | .min2, [.int i, .int j] => some (.int (if j < i then j else i), S)
  | .max2, [.int i, .int j] => some (.int (if j > i then j else i), S)
  | .isi t, [x] => (isiD S t x).map fun b => (.bl b, S)
  | .repr, [x] => (reprD S x).map fun z => (.str z, S)
  | .str, [.int i] => if i.natAbs.log2 < 1920 then some (.str (toString i), S) else none
  | .all, [.ref r] => (lstAt S r).bind fun xs => (blsOf xs).map fun bs => (.bl (bs.all id), S)
  | .any, [.ref r] => (lstAt S r).bind fun xs => (blsOf xs).map fun bs => (.bl (bs.any id), S)
  | .sum, [.ref r] => (lstAt S r).bind fun xs => (intsOf xs).map fun is => (.int is.sum, S)
  | .lst, [x] => (seqAt S x).map fun xs => (.ref S.length, S ++ [.lst xs])
  | .tuple, [x] => (seqAt S x).map fun xs => (.tup xs, S)
  | .rng, [.int a, .int b] => if rgOk a b then some (.ref S.length, S ++ [.lst (rgD a b)]) else none
  | .rng1, [.int b] => if rgOk 0 b then some (.ref S.length, S ++ [.lst (rgD 0 b)]) else none
  | .sset, [.ref r] => (lstAt S r).bind fun xs => (intsOf xs).bind fun is => if is.length < 4000 then some (.ref S.length, S ++ [.lst ((ssetI is).map .int)]) else none
  | _, _ => none

/-! ### what is walked -/
def rngN (a b c : Int) : Option Nat := if 0 < c ∧ -(2 ^ 62) ≤ a ∧ a < 2 ^ 62 ∧ -(2 ^ 62) ≤ b ∧ b < 2 ^ 62 ∧ c < 1073741824 then some ((b - a + c - 1) / c).toNat else none
/-- the items, and the list that they lie in -/
def itD (S : Sto) : Ik → List D → Option (List D × Option Nat)
  | .seq, [.tup xs] => some (xs, none)
  | .seq, [.frz xs] => some (xs, none)
  | .seq, [.ref r] => (lstAt S r).map fun xs => (xs, some r)
  | .rng1, [.int b] => if -(2 ^ 62) ≤ b ∧ b < 2 ^ 62 then some (rgD 0 b, none) else none
  | .rng2, [.int a, .int b] => if -(2 ^ 62) ≤ a ∧ a < 2 ^ 62 ∧ -(2 ^ 62) ≤ b ∧ b < 2 ^ 62 then some (rgD a b, none) else none
  | .rng3, [.int a, .int b, .int c] => (rngN a b c).map fun n => ((List.range n).map fun (i : Nat) => D.int (a + (i : Int) * c), none)
  | _, _ => none
/-- the list that is walked is as it was -/
def still (g : Option Nat) (xs : List D) (S : Sto) : Bool := match g with
  | none => true
  | some r => match lstAt S r with
    | some ys => D.beqs xs ys
    | none => false
def compGo (cond : D → Sto → Option (R Bool)) (elt : D → Sto → Option (R D)) (ok : Sto → Bool) : List D → Sto → Option (R (List D))
  | [], S => some (.ok [] S)
  | x :: xs, S => bnd (cond x S) fun b S1 => if b = true then bnd (elt x S1) fun d S2 => if ok S2 = true then bnd (compGo cond elt ok xs S2) fun ds S3 => some (.ok (d :: ds) S3) else none
    else if ok S1 = true then compGo cond elt ok xs S1 else none
def wipeD (ρ : Loc) : List Nat → Loc
  | [] => ρ
  | v :: vs => (wipeD ρ vs).set v none
def setAll : Loc → List Nat → List D → Loc
  | ρ, i :: is, d :: ds => setAll (ρ.set i (some d)) is ds
  | ρ, _, _ => ρ
def setT (ρ : Loc) : Tg → D → Option Loc
  | .one i, d => some (ρ.set i (some d))
  | .tup is, .tup xs => if xs.length = is.length then some (setAll ρ is xs) else none
  | _, _ => none
/-- no error leaves -/
def noX {α : Type} : Option (R α) → Option (R α)
  | some (.ok a S) => some (.ok a S)
  | _ => none
def tst (x : Option (R D)) : Option (R Bool) := bnd x fun d S => match d with
  | .bl b => some (.ok b S)
  | _ => none
def lift2 (x : Option (D × Sto)) : Option (R D) := x.map fun q => .ok q.1 q.2
def isL (S : Sto) : D → Bool
  | .ref r => (lstAt S r).isSome
  | _ => false
def appD (S : Sto) (x y : D) : Option (R D) := match x with
  | .ref r => match lstAt S r with
    | some xs => if xs.length < sizeLine then some (.ok .non (S.set r (.lst (xs ++ [y])))) else none
    | none => none
  | _ => none
def extD (S : Sto) (x y : D) : Option (R D) := match x, y with
  | .ref r, .ref q => match lstAt S r, lstAt S q with
    | some xs, some ys => if xs.length + ys.length ≤ sizeLine then some (.ok .non (S.set r (.lst (xs ++ ys)))) else none
    | _, _ => none
  | _, _ => none
abbrev Cal := Nat → List D → Sto → Option (R D)
mutual
def evE (G : List D) (cal : Cal) : E → Loc → Sto → Option (R D)
  | .var i, ρ, S => match ρ[i]? with
    | some (some d) => some (.ok d S)
    | _ => none
  | .lit d, _, S => some (.ok d S)
  | .glb k, _, S => match G[k]? with
    | some d => some (.ok d S)
    | none => none
  | .tup es, ρ, S => bnd (evEs G cal es ρ S) fun ds S1 => if ds.length ≤ sizeLine then some (.ok (.tup ds) S1) else none
  | .lst es, ρ, S => bnd (evEs G cal es ρ S) fun ds S1 => if ds.length ≤ sizeLine then some (.ok (.ref S1.length) (S1 ++ [.lst ds])) else none
  | .dic ks es, ρ, S => bnd (evEs G cal es ρ S) fun ds S1 => some (.ok (.ref S1.length) (S1 ++ [.dct ((ks.map Sum.inr).zip ds)]))
  | .op o a b, ρ, S => bnd (evE G cal a ρ S) fun x S1 => bnd (evE G cal b ρ S1) fun y S2 => lift2 (opD S2 o x y)
  | .neg a, ρ, S => bnd (evE G cal a ρ S) fun x S1 => match x with
    | .int i => some (.ok (.int (-i)) S1)
    | _ => none
  | .cmp c a b, ρ, S => bnd (evE G cal a ρ S) fun x S1 => bnd (evE G cal b ρ S1) fun y S2 => (cmpD S2 c x y).map fun r => .ok (.bl r) S2
  | .chain c1 c2 a b c, ρ, S => bnd (evE G cal a ρ S) fun x S1 => bnd (evE G cal b ρ S1) fun y S2 => match cmpD S2 c1 x y with
    | some true => bnd (evE G cal c ρ S2) fun z S3 => (cmpD S3 c2 y z).map fun r => .ok (.bl r) S3
    | some false => some (.ok (.bl false) S2)
    | none => none
  | .and es, ρ, S => evAnd G cal es ρ S
  | .or es, ρ, S => evOr G cal es ρ S
  | .not a, ρ, S => bnd (tst (evE G cal a ρ S)) fun b S1 => some (.ok (.bl (!b)) S1)
  | .ite c a b, ρ, S => bnd (tst (evE G cal c ρ S)) fun t S1 => if t = true then evE G cal a ρ S1 else evE G cal b ρ S1
  | .ix a b, ρ, S => bnd (evE G cal a ρ S) fun x S1 => bnd (evE G cal b ρ S1) fun y S2 => (ixD S2 x y).map fun r => .ok r S2
  | .slc a lo hi, ρ, S => bnd (evE G cal a ρ S) fun x S1 => bnd (evO G cal lo ρ S1) fun l S2 => bnd (evO G cal hi ρ S2) fun h S3 => lift2 (slcD S3 x l h)
  | .rev a, ρ, S => bnd (evE G cal a ρ S) fun x S1 => lift2 (revD S1 x)
  | .call f es, ρ, S => bnd (evEs G cal es ρ S) fun ds S1 => cal f ds S1
  | .bi b es, ρ, S => bnd (evEs G cal es ρ S) fun ds S1 => lift2 (biD S1 b ds)
  | .ext a b, ρ, S => bnd (evE G cal a ρ S) fun x S1 => if isL S1 x = true then bnd (evE G cal b ρ S1) fun y S2 => extD S2 x y else none
  | .app a b, ρ, S => bnd (evE G cal a ρ S) fun x S1 => if isL S1 x = true then bnd (evE G cal b ρ S1) fun y S2 => appD S2 x y else none
  | .lc vs t k its cs elt, ρ, S => bnd (evEs G cal its ρ S) fun ds S1 => match itD S1 k ds with
    | some (xs, g) => bnd (noX (compGo (fun x S2 => (setT (wipeD ρ vs) t x).bind fun ρ' => evTs G cal cs ρ' S2) (fun x S2 => (setT (wipeD ρ vs) t x).bind fun ρ' => evE G cal elt ρ' S2) (still g xs) xs S1)) fun ys S3 =>
        if ys.length ≤ sizeLine then some (.ok (.ref S3.length) (S3 ++ [.lst ys])) else none
    | none => none
def evEs (G : List D) (cal : Cal) : List E → Loc → Sto → Option (R (List D))
  | [], _, S => some (.ok [] S)
  | e :: es, ρ, S => bnd (evE G cal e ρ S) fun d S1 => bnd (evEs G cal es ρ S1) fun ds S2 => some (.ok (d :: ds) S2)
def evAnd (G : List D) (cal : Cal) : List E → Loc → Sto → Option (R D)
  | [], _, _ => none
  | e :: es, ρ, S => match es with
    | [] => bnd (tst (evE G cal e ρ S)) fun b S1 => some (.ok (.bl b) S1)
    | _ :: _ => bnd (tst (evE G cal e ρ S)) fun b S1 => if b = true then evAnd G cal es ρ S1 else some (.ok (.bl false) S1)
def evOr (G : List D) (cal : Cal) : List E → Loc → Sto → Option (R D)
  | [], _, _ => none
  | e :: es, ρ, S => match es with
    | [] => bnd (tst (evE G cal e ρ S)) fun b S1 => some (.ok (.bl b) S1)
    | _ :: _ => bnd (tst (evE G cal e ρ S)) fun b S1 => if b = true then some (.ok (.bl true) S1) else evOr G cal es ρ S1
def evTs (G : List D) (cal : Cal) : List E → Loc → Sto → Option (R Bool)
  | [], _, S => some (.ok true S)
  | e :: es, ρ, S => bnd (tst (evE G cal e ρ S)) fun b S1 => if b = true then evTs G cal es ρ S1 else some (.ok false S1)
def evO (G : List D) (cal : Cal) : Option E → Loc → Sto → Option (R (Option Int))
  | none, _, S => some (.ok none S)
  | some e, ρ, S => bnd (evE G cal e ρ S) fun d S1 => match d with
    | .int i => some (.ok (some i) S1)
    | _ => none
end

/-! ### statements -/
inductive O where
  | nx (ρ : Loc) (S : Sto)
  | rt (d : D) (S : Sto)
  | ex (c : Nat) (v : D) (S : Sto)
def whlGo (cond : Loc → Sto → Option (R Bool)) (body : Loc → Sto → Option O) : Nat → Loc → Sto → Option O
  | 0, _, _ => none
  | n + 1, ρ, S => match cond ρ S with
    | some (.ok true S1) => match body ρ S1 with
      | some (.nx ρ2 S2) => whlGo cond body n ρ2 S2
      | some (.rt d S2) => some (.rt d S2)
      | some (.ex c v S2) => some (.ex c v S2)
      | none => none
    | some (.ok false S1) => some (.nx ρ S1)
    | some (.ex c v S1) => some (.ex c v S1)
    | none => none
def forGo (t : Tg) (body : Loc → Sto → Option O) (ok : Sto → Bool) : List D → Loc → Sto → Option O
  | [], ρ, S => some (.nx ρ S)
  | x :: xs, ρ, S => match (setT ρ t x).bind fun ρ1 => body ρ1 S with
    | some (.nx ρ2 S2) => if ok S2 = true then forGo t body ok xs ρ2 S2 else none
    | some (.rt d S2) => some (.rt d S2)
    | some (.ex c v S2) => some (.ex c v S2)
    | none => none
def ofE (x : Option (R D)) (k : D → Sto → Option O) : Option O := match x with
  | some (.ok d S) => k d S
  | some (.ex c v S) => some (.ex c v S)
  | none => none
mutual
def exS (G : List D) (W : Nat) (cal : Cal) : Sm → Loc → Sto → Option O
  | .asg t e, ρ, S => ofE (evE G cal e ρ S) fun d S1 => (setT ρ t d).map fun ρ1 => .nx ρ1 S1
  | .setIx o i e, ρ, S => ofE (evE G cal e ρ S) fun v S1 => ofE (evE G cal o ρ S1) fun x S2 => ofE (evE G cal i ρ S2) fun y S3 => match x, y with
    | .ref r, .int n => match S3[r]? with
      | some (.lst xs) => match ixN xs.length n with
        | some j => some (.nx ρ (S3.set r (.lst (xs.set j v))))
        | none => none
      | _ => none
    | _, _ => none
  | .expr e, ρ, S => ofE (evE G cal e ρ S) fun _ S1 => some (.nx ρ S1)
  | .ret e, ρ, S => ofE (evE G cal e ρ S) fun d S1 => some (.rt d S1)
  | .ite c a b, ρ, S => match tst (evE G cal c ρ S) with
    | some (.ok true S1) => exSs G W cal a ρ S1
    | some (.ok false S1) => exSs G W cal b ρ S1
    | some (.ex c v S1) => some (.ex c v S1)
    | none => none
  | .for_ t k its body, ρ, S => match evEs G cal its ρ S with
    | some (.ok ds S1) => match itD S1 k ds with
      | some (xs, g) => forGo t (fun ρ S => exSs G W cal body ρ S) (still g xs) xs ρ S1
      | none => none
    | some (.ex c v S1) => some (.ex c v S1)
    | none => none
  | .whl c body, ρ, S => whlGo (fun ρ S => tst (evE G cal c ρ S)) (fun ρ S => exSs G W cal body ρ S) W ρ S
  | .never, _, _ => none
def exSs (G : List D) (W : Nat) (cal : Cal) : List Sm → Loc → Sto → Option O
  | [], ρ, S => some (.nx ρ S)
  | s :: ss, ρ, S => match exS G W cal s ρ S with
    | some (.nx ρ1 S1) => exSs G W cal ss ρ1 S1
    | some (.rt d S1) => some (.rt d S1)
    | some (.ex c v S1) => some (.ex c v S1)
    | none => none
end
/-- a def: how many parameters, how many slots, its body -/
structure Fd where
  name : Str
  np : Nat
  ns : Nat
  body : List Sm
def calF (G : List D) (W : Nat) (T : List Fd) : Nat → Cal
  | 0, _, _, _ => none
  | n + 1, f, ds, S => match T[f]? with
    | some F => if ds.length = F.np then match exSs G W (calF G W T n) F.body (ds.map some ++ List.replicate (F.ns - ds.length) none) S with
        | some (.nx _ S1) => some (.ok .non S1)
        | some (.rt d S1) => some (.ok d S1)
        | some (.ex c v S1) => some (.ex c v S1)
        | none => none
      else none
    | none => none
end Mi

end
section
set_option Elab.async false
set_option linter.all false
set_option maxRecDepth 100000
set_option maxHeartbeats 4000000
/-! How the plain data lie in the layer's heap. -/
namespace Mi
open PySem L2
section
variable (K : PySem.W.Frag)
/-- a list that never changes -/
def FzL (H : Hp) (a : Addr) (xs : List V) : Prop := (∃ o, H a = some (.frz o (.lst xs))) ∨ SqL K (fun _ => none) a xs
mutual
def VR (m : List Addr) (H : Hp) : D → V → Prop
  | .non, v => v = .non
  | .bl b, v => v = .bl b
  | .int i, v => v = .int i
  | .str x, v => v = .str x
  | .tup ds, v => ∃ a xs, v = .ref a ∧ SqT K H a xs ∧ VRs m H ds xs
  | .frz ds, v => ∃ a xs, v = .ref a ∧ FzL K H a xs ∧ VRs m H ds xs
  | .ref n, v => ∃ a, v = .ref a ∧ m[n]? = some a
def VRs (m : List Addr) (H : Hp) : List D → List V → Prop
  | [], xs => xs = []
  | d :: ds, xs => ∃ v vs, xs = v :: vs ∧ VR m H d v ∧ VRs m H ds vs
end
def OR (m : List Addr) (H : Hp) (a : Addr) : SO → Prop
  | .lst ds => ∃ xs, H a = some (.lst xs) ∧ VRs K m H ds xs
  | .dct kvs => ∃ ws : List (Key × V), H a = some (.dK ws) ∧ ws.map (·.1) = kvs.map (·.1) ∧ VRs K m H (kvs.map (·.2)) (ws.map (·.2))
structure Rel (m : List Addr) (S : Sto) (H : Hp) : Prop where
  len : m.length = S.length
  inj : ∀ (i j : Nat) (a : Addr), m[i]? = some a → m[j]? = some a → i = j
  obj : ∀ (n : Nat) (a : Addr) (o : SO), m[n]? = some a → S[n]? = some o → OR K m H a o
structure Ex0 (m : List Addr) (H : Hp) (m' : List Addr) (H' : Hp) : Prop where
  pre : ∀ (n : Nat) (a : Addr), m[n]? = some a → m'[n]? = some a
  tup : ∀ a xs, SqT K H a xs → SqT K H' a xs
  fz : ∀ a xs, FzL K H a xs → FzL K H' a xs
structure Ext (m : List Addr) (H : Hp) (m' : List Addr) (H' : Hp) : Prop extends Ex0 K m H m' H' where
  frm : ∀ a o, H a = some o → a ∉ m → H' a = some o ∧ a ∉ m'
/-- the slots -/
structure VO (m : List Addr) (H : Hp) (ρ : Loc) (σ : St) : Prop where
  len : ρ.length = σ.length
  at_ : ∀ (i : Nat) (d : D), ρ[i]? = some (some d) → ∃ v, σ[i]? = some (some v) ∧ VR K m H d v
end
section
variable {K : PySem.W.Frag} {m m' m2 : List Addr} {H H' H2 : Hp} {S S' : Sto}
theorem Ext.refl : Ext K m H m H := ⟨⟨fun _ _ h => h, fun _ _ h => h, fun _ _ h => h⟩, fun _ _ h n => ⟨h, n⟩⟩
theorem Ext.trans (a : Ext K m H m' H') (b : Ext K m' H' m2 H2) : Ext K m H m2 H2 :=
  ⟨⟨fun n x h => b.pre n x (a.pre n x h), fun x xs h => b.tup x xs (a.tup x xs h), fun x xs h => b.fz x xs (a.fz x xs h)⟩, fun x o h n => let ⟨h1, n1⟩ := a.frm x o h n; b.frm x o h1 n1⟩
mutual
theorem VR.mono0 (e : Ex0 K m H m' H') : ∀ (d : D) (v : V), VR K m H d v → VR K m' H' d v
  | .non, _, h => h
  | .bl _, _, h => h
  | .int _, _, h => h
  | .str _, _, h => h
  | .tup ds, v, h => by
    obtain ⟨a, xs, e1, h1, h2⟩ := h
    exact ⟨a, xs, e1, e.tup a xs h1, VRs.mono0 e ds xs h2⟩
  | .frz ds, v, h => by
    obtain ⟨a, xs, e1, h1, h2⟩ := h
    exact ⟨a, xs, e1, e.fz a xs h1, VRs.mono0 e ds xs h2⟩
  | .ref n, v, h => by
    obtain ⟨a, e1, h1⟩ := h
    exact ⟨a, e1, e.pre n a h1⟩
theorem VRs.mono0 (e : Ex0 K m H m' H') : ∀ (ds : List D) (vs : List V), VRs K m H ds vs → VRs K m' H' ds vs
  | [], _, h => h
  | d :: ds, vs, h => by
    obtain ⟨v, ws, e1, h1, h2⟩ := h
    exact ⟨v, ws, e1, VR.mono0 e d v h1, VRs.mono0 e ds ws h2⟩
end
theorem VR.mono (e : Ext K m H m' H') (d : D) (v : V) (h : VR K m H d v) : VR K m' H' d v := VR.mono0 e.toEx0 d v h
theorem VRs.mono (e : Ext K m H m' H') (ds : List D) (vs : List V) (h : VRs K m H ds vs) : VRs K m' H' ds vs := VRs.mono0 e.toEx0 ds vs h
theorem VO.mono {ρ : Loc} {σ : St} (e : Ext K m H m' H') (h : VO K m H ρ σ) : VO K m' H' ρ σ :=
  ⟨h.len, fun i d q => let ⟨v, e1, r⟩ := h.at_ i d q; ⟨v, e1, VR.mono e d v r⟩⟩
theorem VRs.length : ∀ {ds : List D} {vs : List V}, VRs K m H ds vs → vs.length = ds.length
  | [], _, h => by
    have h : _ = [] := h
    rw [h]; rfl
  | d :: ds, vs, h => by
    obtain ⟨v, ws, e1, h1, h2⟩ := h
    rw [e1, List.length_cons, List.length_cons, VRs.length h2]
theorem VRs.nil : VRs K m H [] [] := rfl
theorem VRs.cons {d : D} {v : V} {ds : List D} {vs : List V} (a : VR K m H d v) (b : VRs K m H ds vs) : VRs K m H (d :: ds) (v :: vs) := ⟨v, vs, rfl, a, b⟩
theorem VRs.append : ∀ {ds es : List D} {vs ws : List V}, VRs K m H ds vs → VRs K m H es ws → VRs K m H (ds ++ es) (vs ++ ws)
  | [], _, _, _, h, q => by
    have h : _ = [] := h
    rw [h]; exact q
  | d :: ds, _, _, _, h, q => by
    obtain ⟨v, ws, e1, h1, h2⟩ := h
    rw [e1]
    exact VRs.cons h1 (VRs.append h2 q)
theorem VRs.get : ∀ {ds : List D} {vs : List V} {i : Nat} {d : D}, VRs K m H ds vs → ds[i]? = some d → ∃ v, vs[i]? = some v ∧ VR K m H d v
  | [], _, _, _, _, e => by simp at e
  | x :: ds, _, 0, d, h, e => by
    obtain ⟨v, ws, e1, h1, h2⟩ := h
    rw [e1]
    simp at e
    subst e
    exact ⟨v, rfl, h1⟩
  | x :: ds, _, i + 1, d, h, e => by
    obtain ⟨v, ws, e1, h1, h2⟩ := h
    rw [e1]
    obtain ⟨u, q1, q2⟩ := VRs.get (i := i) h2 (by simpa using e)
    exact ⟨u, by simpa using q1, q2⟩
theorem VRs.set {d : D} {v : V} (r : VR K m H d v) : ∀ {ds : List D} {vs : List V} (i : Nat), VRs K m H ds vs → VRs K m H (ds.set i d) (vs.set i v)
  | [], _, i, h => by
    have h : _ = [] := h
    rw [h]; exact VRs.nil
  | x :: ds, _, 0, h => by
    obtain ⟨u, ws, e1, h1, h2⟩ := h
    rw [e1]; exact VRs.cons r h2
  | x :: ds, _, i + 1, h => by
    obtain ⟨u, ws, e1, h1, h2⟩ := h
    rw [e1]; exact VRs.cons h1 (VRs.set r i h2)
theorem VRs.take : ∀ {ds : List D} {vs : List V} (n : Nat), VRs K m H ds vs → VRs K m H (ds.take n) (vs.take n)
  | _, _, 0, _ => by simp; exact VRs.nil
  | [], _, n + 1, h => by
    have h : _ = [] := h
    rw [h]; exact VRs.nil
  | x :: ds, _, n + 1, h => by
    obtain ⟨u, ws, e1, h1, h2⟩ := h
    rw [e1]; exact VRs.cons h1 (VRs.take n h2)
theorem VRs.drop : ∀ {ds : List D} {vs : List V} (n : Nat), VRs K m H ds vs → VRs K m H (ds.drop n) (vs.drop n)
  | _, _, 0, h => by simpa using h
  | [], _, n + 1, h => by
    have h : _ = [] := h
    rw [h]; exact VRs.nil
  | x :: ds, _, n + 1, h => by
    obtain ⟨u, ws, e1, h1, h2⟩ := h
    rw [e1]; simpa using VRs.drop n h2
theorem VRs.reverse : ∀ {ds : List D} {vs : List V}, VRs K m H ds vs → VRs K m H ds.reverse vs.reverse
  | [], _, h => by
    have h : _ = [] := h
    rw [h]; exact VRs.nil
  | x :: ds, _, h => by
    obtain ⟨u, ws, e1, h1, h2⟩ := h
    rw [e1, List.reverse_cons, List.reverse_cons]
    exact VRs.append (VRs.reverse h2) (VRs.cons h1 VRs.nil)
theorem VRs.eq_nil {ds : List D} {vs : List V} (h : VRs K m H ds vs) : vs = [] ↔ ds = [] := by
  have := h.length
  constructor <;> intro e <;> (subst e; simp at this)
  · exact List.eq_nil_of_length_eq_zero this.symm
  · exact this
theorem cut_rel {ds : List D} {vs : List V} (h : VRs K m H ds vs) (lo hi : Option Int) : VRs K m H (cutD ds lo hi) (cutV vs lo hi) := by
  unfold cutD cutV
  rw [h.length]
  exact (h.drop _).take _
theorem VRs.one {d : D} {vs : List V} (h : VRs K m H [d] vs) : ∃ v, vs = [v] ∧ VR K m H d v := by
  obtain ⟨v, ws, e1, h1, h2⟩ := h
  have h2 : ws = [] := h2
  subst h2
  exact ⟨v, e1, h1⟩
theorem VRs.two {d e : D} {vs : List V} (h : VRs K m H [d, e] vs) : ∃ v w, vs = [v, w] ∧ VR K m H d v ∧ VR K m H e w := by
  obtain ⟨v, ws, e1, h1, h2⟩ := h
  obtain ⟨w, e2, h3⟩ := h2.one
  subst e2
  exact ⟨v, w, e1, h1, h3⟩
theorem VRs.three {d e f : D} {vs : List V} (h : VRs K m H [d, e, f] vs) : ∃ v w u, vs = [v, w, u] ∧ VR K m H d v ∧ VR K m H e w ∧ VR K m H f u := by
  obtain ⟨v, ws, e1, h1, h2⟩ := h
  obtain ⟨w, u, e2, h3, h4⟩ := h2.two
  subst e2
  exact ⟨v, w, u, e1, h1, h3, h4⟩

/-! ### what is tracked -/
theorem Rel.there (r : Rel K m S H) {a : Addr} (h : a ∈ m) : ∃ (n : Nat) (o : SO), m[n]? = some a ∧ S[n]? = some o ∧ OR K m H a o := by
  obtain ⟨n, hn⟩ := List.mem_iff_getElem?.mp h
  have hl : n < S.length := by rw [← r.len]; exact (List.getElem?_eq_some_iff.mp hn).1
  exact ⟨n, S[n], hn, List.getElem?_eq_getElem hl, r.obj n a _ hn (List.getElem?_eq_getElem hl)⟩
theorem OR.some {a : Addr} {o : SO} (h : OR K m H a o) : ∃ u, H a = some u ∧ (∀ xs, u ≠ .tup xs) ∧ ∀ ob w, u ≠ .frz ob w := by
  cases o with
  | lst ds => obtain ⟨xs, e, _⟩ := h; exact ⟨_, e, (fun _ z => nomatch z), (fun _ _ z => nomatch z)⟩
  | dct kvs => obtain ⟨ws, e, _⟩ := h; exact ⟨_, e, (fun _ z => nomatch z), (fun _ _ z => nomatch z)⟩
theorem Rel.fresh (r : Rel K m S H) {p : Addr} (h : H p = none) : p ∉ m := fun hm => by
  obtain ⟨n, o, _, _, q⟩ := r.there hm
  obtain ⟨u, e, _⟩ := q.some
  rw [h] at e; cases e
theorem sqt_upd {p a : Addr} {o : HO} {xs : List V} (hp : ∀ u, H p = some u → (∀ xs, u ≠ .tup xs) ∧ ∀ ob w, u ≠ .frz ob w) (h : SqT K H a xs) : SqT K (upd H p o) a xs := by
  rcases h with (h | ⟨ob, h⟩) | h
  · refine .inl (.inl ?_)
    rw [upd_ne]
    · exact h
    · intro e; subst e; exact (hp _ h).1 _ rfl
  · refine .inl (.inr ⟨ob, ?_⟩)
    rw [upd_ne]
    · exact h
    · intro e; subst e; exact (hp _ h).2 _ _ rfl
  · exact .inr h
theorem Ext.new {p : Addr} {o : HO} (r : Rel K m S H) (hp : H p = none) (ms : List Addr) (hm : ∀ x ∈ ms, x = p) : Ext K m H (m ++ ms) (upd H p o) := by
  have ne : ∀ {a : Addr} {u : HO}, H a = some u → a ≠ p := fun h e => by subst e; rw [hp] at h; cases h
  refine ⟨⟨fun n a h => ?_, fun a xs h => sqt_upd (fun u q => by rw [hp] at q; cases q) h, fun a xs h => ?_⟩, fun a u h n => ⟨by rw [upd_ne (ne h)]; exact h, ?_⟩⟩
  · rw [List.getElem?_append_left (List.getElem?_eq_some_iff.mp h).1]; exact h
  · rcases h with ⟨ob, h⟩ | h
    · exact .inl ⟨ob, by rw [upd_ne (ne h)]; exact h⟩
    · exact .inr h
  · intro hm'
    rcases List.mem_append.mp hm' with z | z
    · exact n z
    · exact ne h (hm a z)
theorem OR.mono0 {a : Addr} {o : SO} (e : Ex0 K m H m' H') (ha : H' a = H a) (h : OR K m H a o) : OR K m' H' a o := by
  cases o with
  | lst ds => obtain ⟨xs, q, r⟩ := h; exact ⟨xs, ha.trans q, VRs.mono0 e _ _ r⟩
  | dct kvs => obtain ⟨ws, q, k, r⟩ := h; exact ⟨ws, ha.trans q, k, VRs.mono0 e _ _ r⟩
theorem OR.mono {a : Addr} {o : SO} (e : Ext K m H m' H') (ha : H' a = H a) (h : OR K m H a o) : OR K m' H' a o := OR.mono0 e.toEx0 ha h
/-- a new object of the store -/
theorem Rel.adopt {p : Addr} {u : HO} {o : SO} (r : Rel K m S H) (np : p ∉ m) (e : Ex0 K m H (m ++ [p]) (upd H p u)) (ho : OR K (m ++ [p]) (upd H p u) p o) : Rel K (m ++ [p]) (S ++ [o]) (upd H p u) := by
  refine ⟨by simp [r.len], fun i j a h1 h2 => ?_, fun n a o' h1 h2 => ?_⟩
  · by_cases hi : i < m.length
    · by_cases hj : j < m.length
      · rw [List.getElem?_append_left hi] at h1
        rw [List.getElem?_append_left hj] at h2
        exact r.inj i j a h1 h2
      · exfalso
        rw [List.getElem?_append_left hi] at h1
        rw [List.getElem?_append_right (by omega)] at h2
        have : a = p := by
          have h3 := List.mem_of_getElem? h2
          simpa using h3
        subst this
        exact np (List.mem_of_getElem? h1)
    · by_cases hj : j < m.length
      · exfalso
        rw [List.getElem?_append_left hj] at h2
        rw [List.getElem?_append_right (by omega)] at h1
        have : a = p := by
          have h3 := List.mem_of_getElem? h1
          simpa using h3
        subst this
        exact np (List.mem_of_getElem? h2)
      · have h3 := (List.getElem?_eq_some_iff.mp h1).1
        have h4 := (List.getElem?_eq_some_iff.mp h2).1
        simp at h3 h4
        omega
  · by_cases hn : n < m.length
    · rw [List.getElem?_append_left hn] at h1
      rw [List.getElem?_append_left (by rw [← r.len]; exact hn)] at h2
      have q := r.obj n a o' h1 h2
      refine OR.mono0 e ?_ q
      exact upd_ne fun z => np (z ▸ List.mem_of_getElem? h1)
    · have h3 := (List.getElem?_eq_some_iff.mp h1).1
      simp at h3
      have hnl : n = m.length := by omega
      subst hnl
      rw [List.getElem?_append_right (Nat.le_refl _)] at h1
      rw [r.len, List.getElem?_append_right (Nat.le_refl _)] at h2
      simp at h1 h2
      subst h1 h2
      exact ho
theorem Rel.alloc {p : Addr} {u : HO} {o : SO} (r : Rel K m S H) (hp : H p = none) (ho : OR K (m ++ [p]) (upd H p u) p o) : Rel K (m ++ [p]) (S ++ [o]) (upd H p u) :=
  r.adopt (r.fresh hp) (Ext.new (o := u) r hp [p] (by simp)).toEx0 ho
theorem ex0_upd {p : Addr} {u w : HO} (h : H p = some w) (h1 : ∀ xs, w ≠ .tup xs) (h2 : ∀ ob x, w ≠ .frz ob x) : Ex0 K m H (m ++ [p]) (upd H p u) := by
  refine ⟨fun n a h => ?_, fun a xs h0 => sqt_upd (fun v q => by rw [h] at q; cases q; exact ⟨h1, h2⟩) h0, fun a xs h0 => ?_⟩
  · rw [List.getElem?_append_left (List.getElem?_eq_some_iff.mp h).1]; exact h
  · rcases h0 with ⟨ob, h0⟩ | h0
    · refine .inl ⟨ob, ?_⟩
      rw [upd_ne]
      · exact h0
      · intro e; subst e; rw [h] at h0; cases h0; exact h2 _ _ rfl
    · exact .inr h0
/-- an object that was laid ahead is the store's from now on -/
theorem Ext.adopt {p : Addr} {o1 w u : HO} {m2 : List Addr} {H2 : Hp} (r : Rel K m S H) (hp : H p = none) (e : Ext K m (upd H p o1) m2 H2) (h : H2 p = some w) (h1 : ∀ xs, w ≠ .tup xs) (h2 : ∀ ob x, w ≠ .frz ob x) : Ext K m H (m2 ++ [p]) (upd H2 p u) := by
  have a := Ext.new (o := o1) r hp [] (by simp)
  rw [List.append_nil] at a
  have b := ex0_upd (K := K) (m := m2) (u := u) h h1 h2
  refine ⟨⟨fun n x q => b.pre n x (e.pre n x (a.pre n x q)), fun x xs q => b.tup x xs (e.tup x xs (a.tup x xs q)), fun x xs q => b.fz x xs (e.fz x xs (a.fz x xs q))⟩, fun x o q n => ?_⟩
  have ne : x ≠ p := fun z => by subst z; rw [hp] at q; cases q
  obtain ⟨q1, n1⟩ := a.frm x o q n
  obtain ⟨q2, n2⟩ := e.frm x o q1 n1
  exact ⟨by rw [upd_ne ne]; exact q2, fun z => (List.mem_append.mp z).elim n2 fun z => ne (by simpa using z)⟩
theorem alloc_get (p : Addr) : (m ++ [p])[m.length]? = some p := by simp
/-- an object of the store changes -/
theorem Ext.set {n : Nat} {a : Addr} {u : HO} (r : Rel K m S H) (hn : m[n]? = some a) : Ext K m H m (upd H a u) := by
  have hm := List.mem_of_getElem? hn
  obtain ⟨k, o, _, _, q⟩ := r.there hm
  obtain ⟨w, hw, h1, h2⟩ := q.some
  refine ⟨⟨fun _ _ h => h, fun b xs h => sqt_upd (fun v q => by rw [hw] at q; cases q; exact ⟨h1, h2⟩) h, fun b xs h => ?_⟩, fun b v h nb => ⟨by rw [upd_ne (show b ≠ a from fun z => nb (by rw [z]; exact hm))]; exact h, nb⟩⟩
  rcases h with ⟨ob, h⟩ | h
  · refine .inl ⟨ob, ?_⟩
    rw [upd_ne]
    · exact h
    · intro e; subst e; rw [hw] at h; cases h; exact h2 _ _ rfl
  · exact .inr h
theorem Rel.set {n : Nat} {a : Addr} {u : HO} {o : SO} (r : Rel K m S H) (hn : m[n]? = some a) (ho : OR K m (upd H a u) a o) : Rel K m (S.set n o) (upd H a u) := by
  have e := Ext.set (u := u) r hn
  refine ⟨by simp [r.len], r.inj, fun k b o' h1 h2 => ?_⟩
  by_cases hk : k = n
  · subst hk
    rw [hn] at h1; cases h1
    have hl : k < S.length := by
      have := (List.getElem?_eq_some_iff.mp h2).1
      simpa using this
    rw [List.getElem?_set_self hl] at h2
    cases h2
    exact ho
  · rw [List.getElem?_set_ne (fun z => hk z.symm)] at h2
    refine OR.mono e (upd_ne fun z => hk (r.inj k n b h1 (z ▸ hn))) (r.obj k b o' h1 h2)
theorem Rel.lst (r : Rel K m S H) {n : Nat} {a : Addr} {ds : List D} (hn : m[n]? = some a) (hs : S[n]? = some (.lst ds)) : ∃ xs, H a = some (.lst xs) ∧ VRs K m H ds xs := r.obj n a _ hn hs
theorem Rel.at_ (r : Rel K m S H) {n : Nat} {o : SO} (hs : S[n]? = some o) : ∃ a, m[n]? = some a := by
  have h := (List.getElem?_eq_some_iff.mp hs).1
  rw [← r.len] at h
  exact ⟨m[n], List.getElem?_eq_getElem h⟩

/-! ### a sequence read -/
theorem FzL.sql {a : Addr} {xs : List V} (h : FzL K H a xs) : SqL K H a xs := by
  rcases h with ⟨o, h⟩ | h
  · exact .inl (.inr ⟨o, h⟩)
  · rcases h with (h | ⟨o, h⟩) | h
    · cases h
    · cases h
    · exact .inr h
theorem seq_rel (r : Rel K m S H) {x : D} {v : V} {ds : List D} (hv : VR K m H x v) (hs : seqAt S x = some ds) : ∃ a xs, v = .ref a ∧ (SqL K H a xs ∨ SqT K H a xs) ∧ VRs K m H ds xs := by
  cases x with
  | tup es =>
    obtain ⟨a, xs, e, h1, h2⟩ := hv
    cases hs
    exact ⟨a, xs, e, .inr h1, h2⟩
  | frz es =>
    obtain ⟨a, xs, e, h1, h2⟩ := hv
    cases hs
    exact ⟨a, xs, e, .inl h1.sql, h2⟩
  | ref n =>
    obtain ⟨a, e, h1⟩ := hv
    have hs : lstAt S n = some ds := hs
    unfold lstAt at hs
    split at hs
    · rename_i ys q
      cases hs
      obtain ⟨xs, q1, q2⟩ := r.lst h1 q
      exact ⟨a, xs, e, .inl (SqL.of q1), q2⟩
    · cases hs
  | _ => cases hs
theorem lstAt_some {S : Sto} {n : Nat} {ds : List D} (h : lstAt S n = some ds) : S[n]? = some (.lst ds) := by
  unfold lstAt at h
  split at h
  · rename_i q; cases h; exact q
  · cases h

/-! ### flat values -/
theorem flat_V {d : D} {v : V} (h : VR K m H d v) (f : flat d = true) : v = fV d ∧ flatV v = true := by
  cases d with
  | non => cases h; exact ⟨rfl, rfl⟩
  | bl b => cases h; exact ⟨rfl, rfl⟩
  | int i => cases h; exact ⟨rfl, rfl⟩
  | str x => cases h; exact ⟨rfl, rfl⟩
  | tup _ => cases f
  | frz _ => cases f
  | ref _ => cases f
theorem flat_Vs : ∀ {ds : List D} {vs : List V}, VRs K m H ds vs → ds.all flat = true → vs = ds.map fV ∧ vs.all flatV = true
  | [], _, h, _ => by
    have h : _ = [] := h
    subst h; exact ⟨rfl, rfl⟩
  | d :: ds, _, h, f => by
    obtain ⟨v, ws, e, h1, h2⟩ := h
    simp only [List.all_cons, Bool.and_eq_true] at f
    obtain ⟨q1, q2⟩ := flat_V h1 f.1
    obtain ⟨q3, q4⟩ := flat_Vs h2 f.2
    subst e
    refine ⟨by rw [List.map_cons, ← q1, ← q3], ?_⟩
    simp [q2, q4]
theorem ints_rel : ∀ {ds : List D} {vs : List V} {is : List Int}, VRs K m H ds vs → intsOf ds = some is → vs = is.map V.int
  | [], _, _, h, e => by
    have h : _ = [] := h
    cases e
    subst h; rfl
  | d :: ds, _, _, h, e => by
    obtain ⟨v, ws, e1, h1, h2⟩ := h
    cases d with
    | int i =>
      have e : (intsOf ds).map (fun is => i :: is) = some _ := e
      cases q : intsOf ds with
      | none => rw [q] at e; cases e
      | some js =>
        rw [q] at e
        cases e
        have h1 : v = V.int i := h1
        rw [e1, h1, ints_rel h2 q]; rfl
    | _ => cases e
theorem bls_rel : ∀ {ds : List D} {vs : List V} {is : List Bool}, VRs K m H ds vs → blsOf ds = some is → vs = is.map V.bl
  | [], _, _, h, e => by
    have h : _ = [] := h
    cases e
    subst h; rfl
  | d :: ds, _, _, h, e => by
    obtain ⟨v, ws, e1, h1, h2⟩ := h
    cases d with
    | bl i =>
      have e : (blsOf ds).map (fun is => i :: is) = some _ := e
      cases q : blsOf ds with
      | none => rw [q] at e; cases e
      | some js =>
        rw [q] at e
        cases e
        have h1 : v = V.bl i := h1
        rw [e1, h1, bls_rel h2 q]; rfl
    | _ => cases e
theorem VRs.ints : ∀ (is : List Int), VRs K m H (is.map D.int) (is.map V.int)
  | [] => rfl
  | i :: is => ⟨_, _, rfl, rfl, VRs.ints is⟩
end
end Mi

end
section
set_option Elab.async false
set_option linter.all false
set_option maxRecDepth 100000
set_option maxHeartbeats 4000000
/-! Readings refined by functions over plain data. -/
namespace Mi
open PySem L2
section
variable (K : PySem.W.Frag) (XR : List Addr → Hp → Value → Option Addr → Nat → D → Prop) (E : XK)
/-- what is wanted behind an error -/
def PostX (m : List Addr) (H : Hp) (c : Nat) (dv : D) (S' : Sto) : Prop := ∀ cls d H' m', Ext K m H m' H' → Rel K m' S' H' → XR m' H' cls d c dv → E cls d H'
def Post {α β : Type} (VRel : List Addr → Hp → α → β → Prop) (m : List Addr) (H : Hp) (r : R α) (Q : β → Hp → Prop) : Prop := match r with
  | .ok a S' => ∀ v H' m', Ext K m H m' H' → Rel K m' S' H' → VRel m' H' a v → Q v H'
  | .ex c dv S' => PostX K XR E m H c dv S'
/-- a reading, for what a function tells -/
def Ref {α β : Type} (VRel : List Addr → Hp → α → β → Prop) (t : St → Hp → (β → Hp → Prop) → Prop) (f : Loc → Sto → Option (R α)) : Prop :=
  ∀ m H S ρ σ r Q, Rel K m S H → VO K m H ρ σ → f ρ S = some r → Post K XR E VRel m H r Q → t σ H Q
def eqR {α : Type} : List Addr → Hp → α → α → Prop := fun _ _ a b => b = a
abbrev RefE (t : TE) (f : Loc → Sto → Option (R D)) : Prop := Ref K XR E (VR K) t f
abbrev RefA (t : TA) (f : Loc → Sto → Option (R (List D))) : Prop := Ref K XR E (VRs K) t f
abbrev RefT (t : TT) (f : Loc → Sto → Option (R Bool)) : Prop := Ref K XR E eqR t f
abbrev RefO (t : TO) (f : Loc → Sto → Option (R (Option Int))) : Prop := Ref K XR E eqR t f
end
section
variable {K : PySem.W.Frag} {XR : List Addr → Hp → Value → Option Addr → Nat → D → Prop} {E : XK} {m m' m2 : List Addr} {H H' H2 : Hp} {S S' : Sto} {ρ : Loc} {σ : St}
theorem PostX.mono {c : Nat} {dv : D} {S' : Sto} (e : Ext K m H m' H') (p : PostX K XR E m H c dv S') : PostX K XR E m' H' c dv S' := fun cls d H2 m2 e2 r x => p cls d H2 m2 (e.trans e2) r x
theorem Post.mono {α β : Type} {VRel : List Addr → Hp → α → β → Prop} {r : R α} {Q : β → Hp → Prop} (e : Ext K m H m' H') (p : Post K XR E VRel m H r Q) : Post K XR E VRel m' H' r Q := by
  cases r with
  | ok a S' => exact fun v H2 m2 e2 r x => p v H2 m2 (e.trans e2) r x
  | ex c dv S' => exact PostX.mono e p
/-- one after the other -/
theorem ref_bnd {α β γ δ : Type} {V1 : List Addr → Hp → α → β → Prop} {V2 : List Addr → Hp → γ → δ → Prop} {t : St → Hp → (β → Hp → Prop) → Prop} {f : Loc → Sto → Option (R α)} (h : Ref K XR E V1 t f)
    {k : α → Sto → Option (R γ)} {r : R γ} {Q : β → Hp → Prop} {Q' : δ → Hp → Prop} (rel : Rel K m S H) (vo : VO K m H ρ σ) (hf : bnd (f ρ S) k = some r) (p : Post K XR E V2 m H r Q')
    (hk : ∀ a S1 v H1 m1, Ext K m H m1 H1 → Rel K m1 S1 H1 → VO K m1 H1 ρ σ → V1 m1 H1 a v → k a S1 = some r → Post K XR E V2 m1 H1 r Q' → Q v H1) : t σ H Q := by
  cases q : f ρ S with
  | none => rw [q] at hf; cases hf
  | some r1 =>
    rw [q] at hf
    refine h m H S ρ σ r1 Q rel vo q ?_
    cases r1 with
    | ok a S1 => exact fun v H1 m1 e1 rel1 hv => hk a S1 v H1 m1 e1 rel1 (vo.mono e1) hv hf (p.mono e1)
    | ex c dv S1 =>
      have hf : some (R.ex c dv S1) = some r := hf
      cases hf
      exact p
/-- the end: a value at the heap as it is -/
theorem post_ok {α β : Type} {V1 : List Addr → Hp → α → β → Prop} {a : α} {S' : Sto} {Q : β → Hp → Prop} (p : Post K XR E V1 m H (.ok a S') Q) {v : β} {H' : Hp} {m' : List Addr} (e : Ext K m H m' H') (r : Rel K m' S' H') (h : V1 m' H' a v) : Q v H' := p v H' m' e r h
theorem post_here {α β : Type} {V1 : List Addr → Hp → α → β → Prop} {a : α} {Q : β → Hp → Prop} (p : Post K XR E V1 m H (.ok a S) Q) {v : β} (r : Rel K m S H) (h : V1 m H a v) : Q v H := p v H m Ext.refl r h

theorem ref_var {i : Nat} : RefE K XR E (tVar i) (fun ρ S => match ρ[i]? with | some (some d) => some (.ok d S) | _ => none) := by
  intro m H S ρ σ r Q rel vo hf p
  dsimp only at hf
  split at hf
  · rename_i d q
    cases hf
    obtain ⟨v, e, h⟩ := vo.at_ i d q
    exact ⟨v, e, post_here p rel h⟩
  · cases hf
theorem ref_c {d : D} {v : V} (h : ∀ m H, VR K m H d v) : RefE K XR E (tC v) (fun _ S => some (.ok d S)) := by
  intro m H S ρ σ r Q rel vo hf p
  cases hf
  exact post_here p rel (h m H)
theorem ref_nil : RefA K XR E tNil (fun _ S => some (.ok [] S)) := by
  intro m H S ρ σ r Q rel vo hf p
  cases hf
  exact post_here p rel VRs.nil
theorem ref_cons {te : TE} {tr : TA} {f : Loc → Sto → Option (R D)} {g : Loc → Sto → Option (R (List D))} (he : RefE K XR E te f) (hr : RefA K XR E tr g) :
    RefA K XR E (tCons te tr) (fun ρ S => bnd (f ρ S) fun d S1 => bnd (g ρ S1) fun ds S2 => some (.ok (d :: ds) S2)) := by
  intro m H S ρ σ r Q rel vo hf p
  refine ref_bnd he rel vo hf p fun d S1 v H1 m1 e1 rel1 vo1 hv hf p => ?_
  refine ref_bnd hr rel1 vo1 hf p fun ds S2 vs H2 m2 e2 rel2 vo2 hvs hf p => ?_
  cases hf
  exact post_here p rel2 ⟨v, vs, rfl, VR.mono e2 d v hv, hvs⟩
theorem ref_tup {t : TA} {g : Loc → Sto → Option (R (List D))} (h : RefA K XR E t g) : RefE K XR E (tTup t) (fun ρ S => bnd (g ρ S) fun ds S1 => if ds.length ≤ sizeLine then some (.ok (.tup ds) S1) else none) := by
  intro m H S ρ σ r Q rel vo hf p
  refine ref_bnd h rel vo hf p fun ds S1 vs H1 m1 e1 rel1 vo1 hv hf p => ?_
  split at hf
  · rename_i hz
    cases hf
    refine ⟨by rw [hv.length]; exact hz, fun q hq => ?_⟩
    have e2 := Ext.new (o := .tup vs) rel1 hq [] (by simp)
    rw [List.append_nil] at e2
    refine post_ok p e2 ⟨rel1.len, rel1.inj, fun n a o h1 h2 => OR.mono e2 (upd_ne fun z => rel1.fresh hq (z ▸ List.mem_of_getElem? h1)) (rel1.obj n a o h1 h2)⟩ ⟨q, vs, rfl, SqT.of upd_same, VRs.mono e2 _ _ hv⟩
  · cases hf
/-- a new list of the store -/
theorem new_lst {ds : List D} {vs : List V} {q : Addr} (rel : Rel K m S H) (hq : H q = none) (hv : VRs K m H ds vs) :
    Ext K m H (m ++ [q]) (upd H q (.lst vs)) ∧ Rel K (m ++ [q]) (S ++ [.lst ds]) (upd H q (.lst vs)) ∧ VR K (m ++ [q]) (upd H q (.lst vs)) (.ref S.length) (.ref q) := by
  have e := Ext.new (o := .lst vs) rel hq [q] (by simp)
  exact ⟨e, rel.alloc hq ⟨vs, upd_same, VRs.mono e _ _ hv⟩, q, rfl, by rw [← rel.len]; exact alloc_get q⟩
theorem ref_lst {t : TA} {g : Loc → Sto → Option (R (List D))} (h : RefA K XR E t g) : RefE K XR E (tLst t) (fun ρ S => bnd (g ρ S) fun ds S1 => if ds.length ≤ sizeLine then some (.ok (.ref S1.length) (S1 ++ [.lst ds])) else none) := by
  intro m H S ρ σ r Q rel vo hf p
  refine ref_bnd h rel vo hf p fun ds S1 vs H1 m1 e1 rel1 vo1 hv hf p => ?_
  split at hf
  · rename_i hz
    cases hf
    refine ⟨by rw [hv.length]; exact hz, fun q hq => ?_⟩
    obtain ⟨a1, a2, a3⟩ := new_lst rel1 hq hv
    exact post_ok p a1 a2 a3
  · cases hf
/-- two values, then an operation on them -/
def Op2R (K : PySem.W.Frag) (r : R2) (k : Sto → D → D → Option (D × Sto)) : Prop := ∀ m H S x y dx dy d S' (Q : VK), Rel K m S H → VR K m H dx x → VR K m H dy y → k S dx dy = some (d, S') →
  (∀ v H' m', Ext K m H m' H' → Rel K m' S' H' → VR K m' H' d v → Q v H') → r x y H Q
theorem ref_op {ta tb : TE} {f g : Loc → Sto → Option (R D)} {r : R2} {k : Sto → D → D → Option (D × Sto)} (ho : Op2R K r k) (ha : RefE K XR E ta f) (hb : RefE K XR E tb g) :
    RefE K XR E (tOp r ta tb) (fun ρ S => bnd (f ρ S) fun x S1 => bnd (g ρ S1) fun y S2 => lift2 (k S2 x y)) := by
  intro m H S ρ σ rr Q rel vo hf p
  refine ref_bnd ha rel vo hf p fun x S1 v H1 m1 e1 rel1 vo1 hv hf p => ?_
  refine ref_bnd hb rel1 vo1 hf p fun y S2 u H2 m2 e2 rel2 vo2 hu hf p => ?_
  unfold lift2 at hf
  cases q : k S2 x y with
  | none => rw [q] at hf; cases hf
  | some w =>
    rw [q] at hf
    cases hf
    exact ho m2 H2 S2 v u x y w.1 w.2 Q rel2 (VR.mono e2 x v hv) hu q p
theorem Op2R.or {r r' : R2} {k k' kk : Sto → D → D → Option (D × Sto)} (h : Op2R K r k) (h' : Op2R K r' k') (hk : ∀ S x y w, kk S x y = some w → k S x y = some w ∨ k' S x y = some w) :
    Op2R K (fun x y H Q => r x y H Q ∨ r' x y H Q) kk := by
  intro m H S x y dx dy d S' Q rel hx hy hf p
  rcases hk S dx dy _ hf with z | z
  · exact .inl (h m H S x y dx dy d S' Q rel hx hy z p)
  · exact .inr (h' m H S x y dx dy d S' Q rel hx hy z p)
/-- a comparison, by values -/
def Cm2R (K : PySem.W.Frag) (r : R2) (k : Sto → D → D → Option Bool) : Prop := ∀ m H S x y dx dy b (Q : VK), Rel K m S H → VR K m H dx x → VR K m H dy y → k S dx dy = some b → Q (.bl b) H → r x y H Q
theorem ref_cmp {ta tb : TE} {f g : Loc → Sto → Option (R D)} {r : R2} {k : Sto → D → D → Option Bool} (ho : Cm2R K r k) (ha : RefE K XR E ta f) (hb : RefE K XR E tb g) :
    RefE K XR E (tOp r ta tb) (fun ρ S => bnd (f ρ S) fun x S1 => bnd (g ρ S1) fun y S2 => (k S2 x y).map fun b => .ok (.bl b) S2) := by
  intro m H S ρ σ rr Q rel vo hf p
  refine ref_bnd ha rel vo hf p fun x S1 v H1 m1 e1 rel1 vo1 hv hf p => ?_
  refine ref_bnd hb rel1 vo1 hf p fun y S2 u H2 m2 e2 rel2 vo2 hu hf p => ?_
  cases q : k S2 x y with
  | none => rw [q] at hf; cases hf
  | some b =>
    rw [q] at hf
    cases hf
    exact ho m2 H2 S2 v u x y b Q rel2 (VR.mono e2 x v hv) hu q (post_here p rel2 rfl)
/-- a value that is a bool, as a test -/
theorem ref_test {t : TE} {f : Loc → Sto → Option (R D)} (h : RefE K XR E t f) : RefT K XR E (tTest t) (fun ρ S => tst (f ρ S)) := by
  intro m H S ρ σ rr Q rel vo hf p
  refine ref_bnd h rel vo hf p fun x S1 v H1 m1 e1 rel1 vo1 hv hf p => ?_
  cases x with
  | bl b =>
    cases hf
    have hv : v = .bl b := hv
    exact ⟨b, hv, post_here p rel1 rfl⟩
  | _ => cases hf
theorem tst_eq_bnd (x : Option (R D)) : tst x = bnd x fun d S => match d with | .bl b => some (.ok b S) | _ => none := rfl
theorem ref_and {t u : TT} {f g : Loc → Sto → Option (R Bool)} (h : RefT K XR E t f) (h' : RefT K XR E u g) : RefT K XR E (tAnd t u) (fun ρ S => bnd (f ρ S) fun b S1 => if b = true then g ρ S1 else some (.ok false S1)) := by
  intro m H S ρ σ rr Q rel vo hf p
  refine ref_bnd h rel vo hf p fun b S1 v H1 m1 e1 rel1 vo1 hv hf p => ?_
  have hv : v = b := hv
  subst hv
  cases v with
  | true =>
    rw [if_pos rfl] at hf ⊢
    exact h' m1 H1 S1 ρ σ rr Q rel1 vo1 hf p
  | false =>
    rw [if_neg Bool.false_ne_true] at hf ⊢
    cases hf
    exact post_here p rel1 rfl
theorem ref_or {t u : TT} {f g : Loc → Sto → Option (R Bool)} (h : RefT K XR E t f) (h' : RefT K XR E u g) : RefT K XR E (tOr t u) (fun ρ S => bnd (f ρ S) fun b S1 => if b = true then some (.ok true S1) else g ρ S1) := by
  intro m H S ρ σ rr Q rel vo hf p
  refine ref_bnd h rel vo hf p fun b S1 v H1 m1 e1 rel1 vo1 hv hf p => ?_
  have hv : v = b := hv
  subst hv
  cases v with
  | true =>
    rw [if_pos rfl] at hf ⊢
    cases hf
    exact post_here p rel1 rfl
  | false =>
    rw [if_neg Bool.false_ne_true] at hf ⊢
    exact h' m1 H1 S1 ρ σ rr Q rel1 vo1 hf p
theorem ref_not {t : TT} {f : Loc → Sto → Option (R Bool)} (h : RefT K XR E t f) : RefT K XR E (tNot t) (fun ρ S => bnd (f ρ S) fun b S1 => some (.ok (!b) S1)) := by
  intro m H S ρ σ rr Q rel vo hf p
  refine ref_bnd h rel vo hf p fun b S1 v H1 m1 e1 rel1 vo1 hv hf p => ?_
  have hv : v = b := hv
  subst hv
  cases hf
  exact post_here p rel1 rfl
theorem ref_ite {tc : TT} {ta tb : TE} {fc : Loc → Sto → Option (R Bool)} {f g : Loc → Sto → Option (R D)} (hc : RefT K XR E tc fc) (ha : RefE K XR E ta f) (hb : RefE K XR E tb g) :
    RefE K XR E (tIf tc ta tb) (fun ρ S => bnd (fc ρ S) fun t S1 => if t = true then f ρ S1 else g ρ S1) := by
  intro m H S ρ σ rr Q rel vo hf p
  refine ref_bnd hc rel vo hf p fun b S1 v H1 m1 e1 rel1 vo1 hv hf p => ?_
  have hv : v = b := hv
  subst hv
  cases v with
  | true =>
    rw [if_pos rfl] at hf ⊢
    exact ha m1 H1 S1 ρ σ rr Q rel1 vo1 hf p
  | false =>
    rw [if_neg Bool.false_ne_true] at hf ⊢
    exact hb m1 H1 S1 ρ σ rr Q rel1 vo1 hf p
theorem ref_andV {ta tb : TE} {f g : Loc → Sto → Option (R D)} (h : RefE K XR E ta f) (h' : RefE K XR E tb g) : RefE K XR E (tAndV ta tb) (fun ρ S => bnd (tst (f ρ S)) fun b S1 => if b = true then g ρ S1 else some (.ok (.bl false) S1)) := by
  intro m H S ρ σ rr Q rel vo hf p
  refine ref_bnd (ref_test h) rel vo hf p (Q := fun b H1 => if b = true then tb σ H1 Q else Q (.bl false) H1) fun b S1 v H1 m1 e1 rel1 vo1 hv hf p => ?_
  have hv : v = b := hv
  subst hv
  cases v with
  | true =>
    rw [if_pos rfl] at hf ⊢
    exact h' m1 H1 S1 ρ σ rr Q rel1 vo1 hf p
  | false =>
    rw [if_neg Bool.false_ne_true] at hf ⊢
    cases hf
    exact post_here p rel1 rfl
theorem ref_orV {ta tb : TE} {f g : Loc → Sto → Option (R D)} (h : RefE K XR E ta f) (h' : RefE K XR E tb g) : RefE K XR E (tOrV ta tb) (fun ρ S => bnd (tst (f ρ S)) fun b S1 => if b = true then some (.ok (.bl true) S1) else g ρ S1) := by
  intro m H S ρ σ rr Q rel vo hf p
  refine ref_bnd (ref_test h) rel vo hf p (Q := fun b H1 => if b = true then Q (.bl true) H1 else tb σ H1 Q) fun b S1 v H1 m1 e1 rel1 vo1 hv hf p => ?_
  have hv : v = b := hv
  subst hv
  cases v with
  | true =>
    rw [if_pos rfl] at hf ⊢
    cases hf
    exact post_here p rel1 rfl
  | false =>
    rw [if_neg Bool.false_ne_true] at hf ⊢
    exact h' m1 H1 S1 ρ σ rr Q rel1 vo1 hf p
theorem ref_lastV {ta : TE} {f : Loc → Sto → Option (R D)} (h : RefE K XR E ta f) : RefE K XR E ta (fun ρ S => bnd (tst (f ρ S)) fun b S1 => some (.ok (.bl b) S1)) := by
  intro m H S ρ σ rr Q rel vo hf p
  dsimp only at hf
  cases q : f ρ S with
  | none => rw [q] at hf; cases hf
  | some r1 =>
    refine h m H S ρ σ r1 Q rel vo q ?_
    rw [q] at hf
    cases r1 with
    | ok d S1 =>
      cases d with
      | bl b => cases hf; exact p
      | _ => cases hf
    | ex c dv S1 => cases hf; exact p
theorem ref_notV {ta : TE} {f : Loc → Sto → Option (R D)} (h : RefE K XR E ta f) : RefE K XR E (tNotV ta) (fun ρ S => bnd (tst (f ρ S)) fun b S1 => some (.ok (.bl (!b)) S1)) := by
  intro m H S ρ σ rr Q rel vo hf p
  refine ref_bnd (ref_test h) rel vo hf p (Q := fun b H1 => Q (.bl (!b)) H1) fun b S1 v H1 m1 e1 rel1 vo1 hv hf p => ?_
  have hv : v = b := hv
  subst hv
  cases hf
  exact post_here p rel1 rfl
end
end Mi

end
section
set_option Elab.async false
set_option linter.all false
set_option maxRecDepth 100000
set_option maxHeartbeats 4000000
/-! The operations. -/
namespace Mi
open PySem L2 PySem.Spec PyProof.Rows
section
variable {X : Cx}
theorem mulOk_ok {i j : Int} (h : mulOk i j) : IntMulOk i j := by
  rcases h with h | h | ⟨h1, h2, h3, h4⟩
  · exact (show CMul i j from .inl h).ok
  · exact (show CMul i j from .inr h).ok
  · exact (mulx_ok (a := 4096) (b := 4096) (by omega) (by omega) (by decide)).ok
theorem opr_mul : OpR X (binaryOp .Mult) (rI mulOk fun i j => .int (i * j)) := opI fun _ _ _ _ _ _ _ hc q => mul_int q (mulOk_ok hc)
theorem opr_pow : OpR X (binaryOp .Pow) (rI powOk fun i j => .int (i ^ j.toNat)) := opI fun i j _ _ _ _ _ hc q => by
  obtain ⟨h0, h1, h2, h3⟩ := hc
  refine pow_int h0 ?_ q
  have hb : Builtin.Int.intBits i ≤ 4096 := intBits_le (by omega)
  have h4 : (Builtin.Int.intBits i : Int) * j ≤ 4096 * j := Int.mul_le_mul_of_nonneg_right (by omega) h0
  omega
def rFdiv : R2 := rI (fun _ j => 0 < j ∧ j < 2 ^ 4096) fun i j => .int (i / j)
theorem opr_fdiv : OpR X (binaryOp .FloorDiv) rFdiv := by
  intro pins s σ H x y v u Q I rx ry h
  obtain ⟨i, j, e1, e2, ⟨h1, h2⟩, q⟩ := h
  exact op_fdivW pins s σ H x y v u Q I rx ry ⟨i, j, e1, e2, wide_div h1 (b := 4096) (by omega) (by decide) (by decide), q⟩
/-- texts -/
def rAddStr : R2 := fun x y H Q => ∃ i j, x = .str i ∧ y = .str j ∧ i.length + j.length ≤ sizeLine ∧ Q (.str (i ++ j)) H
theorem opr_addstr : OpR X (binaryOp .Add) rAddStr := op_add_str
theorem OpR.or4 {f : Value → Value → Sem Value} {a b c d : R2} (h1 : OpR X f a) (h2 : OpR X f b) (h3 : OpR X f c) (h4 : OpR X f d) : OpR X f (fun x y H Q => a x y H Q ∨ b x y H Q ∨ c x y H Q ∨ d x y H Q) := OpR.or h1 (OpR.or h2 (OpR.or h3 h4))
end
/-- + of ints, texts, tuples, lists -/
def rAdd4 (K : PySem.W.Frag) : R2 := fun x y H Q => rI0 (fun i j => .int (i + j)) x y H Q ∨ rAddStr x y H Q ∨ rCatA K x y H Q ∨ rCat x y H Q
theorem opr_add {X : Cx} : OpR X (binaryOp .Add) (rAdd4 X.K) := OpR.or4 op_add opr_addstr op_catA op_cat
section
variable {K : PySem.W.Frag} {m m' : List Addr} {H H' : Hp} {S : Sto}
theorem vr_int {d : D} {v : V} {i : Int} (h : VR K m H d v) (e : d = .int i) : v = .int i := by subst e; exact h
theorem op2_add : Op2R K (rAdd4 K) (fun S => opD S .add) := by
  intro m H S x y dx dy d S' Q rel hx hy hf p
  cases dx with
  | int i =>
    cases dy with
    | int j => cases hf; exact .inl ⟨i, j, hx, hy, p _ H m Ext.refl rel rfl⟩
    | _ => cases hf
  | str a =>
    cases dy with
    | str b =>
      have hf : (if a.length + b.length ≤ sizeLine then some (D.str (a ++ b), S) else none) = some (d, S') := hf
      split at hf
      · rename_i hz
        cases hf
        exact .inr (.inl ⟨a, b, hx, hy, hz, p _ H m Ext.refl rel rfl⟩)
      · cases hf
    | _ => cases hf
  | tup xs =>
    cases dy with
    | tup ys =>
      have hf : (if xs.length + ys.length ≤ sizeLine then some (D.tup (xs ++ ys), S) else none) = some (d, S') := hf
      split at hf
      · rename_i hz
        cases hf
        obtain ⟨a, vs, e1, h1, h2⟩ := hx
        obtain ⟨b, ws, e2, h3, h4⟩ := hy
        refine .inr (.inr (.inl ⟨a, b, vs, ws, e1, e2, h1, h3, by rw [h2.length, h4.length]; exact hz, fun n => ?_, fun n1 n2 => ?_, fun n1 n2 q hq => ?_⟩))
        · refine p _ H m Ext.refl rel ⟨b, ws, rfl, h3, ?_⟩
          rw [h2.eq_nil.mp n]; exact h4
        · refine p _ H m Ext.refl rel ⟨a, vs, rfl, h1, ?_⟩
          rw [h4.eq_nil.mp n2, List.append_nil]; exact h2
        · have e := Ext.new (o := .tup (vs ++ ws)) rel hq [] (by simp)
          rw [List.append_nil] at e
          refine p _ _ m e ⟨rel.len, rel.inj, fun n a o g1 g2 => OR.mono e (upd_ne fun z => rel.fresh hq (z ▸ List.mem_of_getElem? g1)) (rel.obj n a o g1 g2)⟩ ⟨q, vs ++ ws, rfl, SqT.of upd_same, VRs.mono e _ _ (h2.append h4)⟩
      · cases hf
    | _ => cases hf
  | ref a =>
    cases dy with
    | ref b =>
      have hf : (match S[a]?, S[b]? with
        | some (.lst xs), some (.lst ys) => if xs.length + ys.length ≤ sizeLine then some (D.ref S.length, S ++ [.lst (xs ++ ys)]) else none
        | _, _ => none) = some (d, S') := hf
      split at hf
      · rename_i xs ys g1 g2
        split at hf
        · rename_i hz
          cases hf
          obtain ⟨p1, e1, h1⟩ := hx
          obtain ⟨p2, e2, h2⟩ := hy
          obtain ⟨vs, q1, r1⟩ := rel.lst h1 g1
          obtain ⟨ws, q2, r2⟩ := rel.lst h2 g2
          refine .inr (.inr (.inr ⟨p1, p2, vs, ws, e1, e2, q1, q2, by rw [r1.length, r2.length]; exact hz, fun q hq => ?_⟩))
          obtain ⟨a1, a2, a3⟩ := new_lst rel hq (r1.append r2)
          exact p _ _ _ a1 a2 a3
        · cases hf
      · cases hf
    | _ => cases hf
  | _ => cases hf
theorem op2_int {C : Int → Int → Prop} {g : Int → Int → Int} {k : Sto → D → D → Option (D × Sto)} (h : ∀ S x y w, k S x y = some w → ∃ i j, x = .int i ∧ y = .int j ∧ C i j ∧ w = (.int (g i j), S)) : Op2R K (rI C fun i j => .int (g i j)) k := by
  intro m H S x y dx dy d S' Q rel hx hy hf p
  obtain ⟨i, j, e1, e2, hc, e3⟩ := h S dx dy _ hf
  cases e3
  exact ⟨i, j, vr_int hx e1, vr_int hy e2, hc, p _ H m Ext.refl rel rfl⟩
theorem op2_sub : Op2R K (rI0 fun i j => .int (i - j)) (fun S => opD S .sub) := by
  intro m H S x y dx dy d S' Q rel hx hy hf p
  cases dx with
  | int i =>
    cases dy with
    | int j => cases hf; exact ⟨i, j, hx, hy, p _ H m Ext.refl rel rfl⟩
    | _ => cases hf
  | _ => cases hf
theorem if_some {α : Type} {c : Prop} [Decidable c] {a b : α} (h : (if c then some a else none) = some b) : c ∧ b = a := by
  split at h
  · rename_i hc; cases h; exact ⟨hc, rfl⟩
  · cases h
theorem op2_mul : Op2R K (rI mulOk fun i j => .int (i * j)) (fun S => opD S .mul) := op2_int fun S x y w h => by
  cases x with
  | int i =>
    cases y with
    | int j => obtain ⟨a, b⟩ := if_some (show (if mulOk i j then some (D.int (i * j), S) else none) = some w from h); exact ⟨i, j, rfl, rfl, a, b⟩
    | _ => cases h
  | _ => cases h
theorem op2_fdiv : Op2R K rFdiv (fun S => opD S .fdiv) := op2_int fun S x y w h => by
  cases x with
  | int i =>
    cases y with
    | int j => obtain ⟨a, b⟩ := if_some (show (if 0 < j ∧ j < 2 ^ 4096 then some (D.int (i / j), S) else none) = some w from h); exact ⟨i, j, rfl, rfl, a, b⟩
    | _ => cases h
  | _ => cases h
theorem op2_mod : Op2R K (rI (fun _ j => 0 < j) fun i j => .int (i % j)) (fun S => opD S .mod) := op2_int fun S x y w h => by
  cases x with
  | int i =>
    cases y with
    | int j => obtain ⟨a, b⟩ := if_some (show (if 0 < j then some (D.int (i % j), S) else none) = some w from h); exact ⟨i, j, rfl, rfl, a, b⟩
    | _ => cases h
  | _ => cases h
theorem op2_pow : Op2R K (rI powOk fun i j => .int (i ^ j.toNat)) (fun S => opD S .pow) := op2_int fun S x y w h => by
  cases x with
  | int i =>
    cases y with
    | int j => obtain ⟨a, b⟩ := if_some (show (if powOk i j then some (D.int (i ^ j.toNat), S) else none) = some w from h); exact ⟨i, j, rfl, rfl, a, b⟩
    | _ => cases h
  | _ => cases h
/-- the reading of an operation -/
def rOp (K : PySem.W.Frag) : Op2 → R2
  | .add => rAdd4 K
  | .sub => rI0 fun i j => .int (i - j)
  | .mul => rI mulOk fun i j => .int (i * j)
  | .fdiv => rFdiv
  | .mod => rI (fun _ j => 0 < j) fun i j => .int (i % j)
  | .pow => rI powOk fun i j => .int (i ^ j.toNat)
def oOp : Op2 → Operator
  | .add => .Add
  | .sub => .Sub
  | .mul => .Mult
  | .fdiv => .FloorDiv
  | .mod => .Mod
  | .pow => .Pow
theorem opr_op {X : Cx} : ∀ o, OpR X (binaryOp (oOp o)) (rOp X.K o)
  | .add => opr_add
  | .sub => op_sub
  | .mul => opr_mul
  | .fdiv => opr_fdiv
  | .mod => op_mod
  | .pow => opr_pow
theorem op2_op : ∀ o, Op2R K (rOp K o) (fun S => opD S o)
  | .add => op2_add
  | .sub => op2_sub
  | .mul => op2_mul
  | .fdiv => op2_fdiv
  | .mod => op2_mod
  | .pow => op2_pow

/-! ### data -/
mutual
theorem dp_of (f : Nat → Option PyData) (hf : ∀ n a p, m[n]? = some a → f n = some p → Dp K H (.ref a) p) : ∀ (d : D) (v : V) (p : PyData), VR K m H d v → toPyW f d = some p → Dp K H v p
  | .non, _, _, h, e => by cases h; cases e; exact .non
  | .bl b, _, _, h, e => by cases h; cases e; exact .bl b
  | .int i, _, _, h, e => by cases h; cases e; exact .int i
  | .str x, _, _, h, e => by cases h; cases e; exact .str x
  | .tup ds, v, p, h, e => by
    obtain ⟨a, xs, e1, h1, h2⟩ := h
    have e : (toPysW f ds).map PyData.tuple = some p := e
    cases q : toPysW f ds with
    | none => rw [q] at e; cases e
    | some ps => rw [q] at e; cases e; subst e1; exact .tup h1 (dps_of f hf ds xs ps h2 q)
  | .frz ds, v, p, h, e => by
    obtain ⟨a, xs, e1, h1, h2⟩ := h
    have e : (toPysW f ds).map PyData.list = some p := e
    cases q : toPysW f ds with
    | none => rw [q] at e; cases e
    | some ps => rw [q] at e; cases e; subst e1; exact .lst h1.sql (dps_of f hf ds xs ps h2 q)
  | .ref n, v, p, h, e => by
    obtain ⟨a, e1, h1⟩ := h
    subst e1
    exact hf n a p h1 e
theorem dps_of (f : Nat → Option PyData) (hf : ∀ n a p, m[n]? = some a → f n = some p → Dp K H (.ref a) p) : ∀ (ds : List D) (vs : List V) (ps : List PyData), VRs K m H ds vs → toPysW f ds = some ps → DpAll K H vs ps
  | [], _, _, h, e => by
    have h : _ = [] := h
    cases e
    subst h
    exact .nil
  | d :: ds, vs, ps, h, e => by
    obtain ⟨v, ws, e1, h1, h2⟩ := h
    have e : ((toPyW f d).bind fun p => (toPysW f ds).map fun ps => p :: ps) = some ps := e
    cases q : toPyW f d with
    | none => rw [q] at e; cases e
    | some p =>
      rw [q] at e
      cases q2 : toPysW f ds with
      | none => rw [q2] at e; cases e
      | some ps' =>
        rw [q2] at e
        cases e
        subst e1
        exact .cons (dp_of f hf d v p h1 q) (dps_of f hf ds ws ps' h2 q2)
end
/-- without dicts -/
def noD : PyData → Bool
  | .dict _ => false
  | _ => true
end
end Mi

end
section
set_option Elab.async false
set_option linter.all false
set_option maxRecDepth 100000
set_option maxHeartbeats 4000000
/-! What is read as the library's data; ==, in, repr. -/
namespace Mi
open PySem L2 PySem.Spec PyProof.Rows
/-- the table of modules is a dict of the base -/
def SysOk (base : Heap) : Prop := ∃ o, base.get? sysModules = some o ∧ o.cls = .type "dict"
section
variable {X : Cx} {pins : List (Addr × Obj)} {σ : L2.St} {H : Hp} {s : Shared} {m : List Addr} {S : Sto}
theorem not_sys (hs : SysOk X.base) (I : Inv X pins σ H s) {a : Addr} {o : Obj} (h : s.heap.get? a = some o) (hc : o.cls = .type "list") : a ≠ sysModules := by
  intro e
  obtain ⟨o', h1, h2⟩ := hs
  have h3 := (I.bs _ _ h1).1
  rw [e] at h
  rw [h] at h3
  cases h3
  rw [hc] at h2
  exact absurd h2 (by decide)
abbrev RdS (h : Heap) (u : Value) (p : PyData) : Prop := ∃ as, Reads h u p as ∧ sysModules ∉ as
abbrev RdsS (h : Heap) (us : List Value) (ps : List PyData) : Prop := ∃ as, ReadsAll h us ps as ∧ sysModules ∉ as
mutual
theorem reads_of (hs : SysOk X.base) (I : Inv X pins σ H s) (f : Nat → Option PyData) (hf : ∀ (n : Nat) (a : Addr) (p : PyData), m[n]? = some a → f n = some p → RdS s.heap (.ref a) p) :
    ∀ (d : D) (v : V) (p : PyData) (u : Value), VR X.K m H d v → toPyW f d = some p → RelV v u → RdS s.heap u p
  | .non, _, _, _, h, e, r => by cases h; cases e; cases r; exact ⟨_, .none, by simp⟩
  | .bl b, _, _, _, h, e, r => by cases h; cases e; cases r; exact ⟨_, .bool b, by simp⟩
  | .int i, _, _, _, h, e, r => by cases h; cases e; obtain ⟨t, rfl⟩ := r; exact ⟨_, .int i t, by simp⟩
  | .str x, _, _, _, h, e, r => by cases h; cases e; obtain ⟨t, rfl⟩ := r; exact ⟨_, .str x t, by simp⟩
  | .tup ds, v, p, u, h, e, r => by
    obtain ⟨a, xs, e1, h1, h2⟩ := h
    have e : (toPysW f ds).map PyData.tuple = some p := e
    cases q : toPysW f ds with
    | none => rw [q] at e; cases e
    | some ps =>
      rw [q] at e; cases e; subst e1; cases r
      obtain ⟨its, rv, ⟨o, ho, hc, n, hd⟩, _⟩ := I.tuple h1
      obtain ⟨as, g1, g2⟩ := readss_of hs I f hf ds xs ps its h2 q rv
      exact ⟨as, .tuple ho hc hd g1, g2⟩
  | .frz ds, v, p, u, h, e, r => by
    obtain ⟨a, xs, e1, h1, h2⟩ := h
    have e : (toPysW f ds).map PyData.list = some p := e
    cases q : toPysW f ds with
    | none => rw [q] at e; cases e
    | some ps =>
      rw [q] at e; cases e; subst e1; cases r
      obtain ⟨its, rv, ⟨o, n, ho, hc, hdd, hd⟩, _⟩ := I.list h1.sql
      obtain ⟨as, g1, g2⟩ := readss_of hs I f hf ds xs ps its h2 q rv
      refine ⟨a :: as, .list ho hc hd g1, fun z => ?_⟩
      rcases List.mem_cons.mp z with z | z
      · exact not_sys hs I ho hc z.symm
      · exact g2 z
  | .ref n, v, p, u, h, e, r => by
    obtain ⟨a, e1, h1⟩ := h
    subst e1
    cases r
    exact hf n a p h1 e
theorem readss_of (hs : SysOk X.base) (I : Inv X pins σ H s) (f : Nat → Option PyData) (hf : ∀ (n : Nat) (a : Addr) (p : PyData), m[n]? = some a → f n = some p → RdS s.heap (.ref a) p) :
    ∀ (ds : List D) (vs : List V) (ps : List PyData) (us : List Value), VRs X.K m H ds vs → toPysW f ds = some ps → Vals vs us → RdsS s.heap us ps
  | [], _, _, _, h, e, r => by
    have h : _ = [] := h
    cases e
    subst h
    cases r
    exact ⟨_, .nil, by simp⟩
  | d :: ds, vs, ps, us, h, e, r => by
    obtain ⟨v, ws, e1, h1, h2⟩ := h
    have e : ((toPyW f d).bind fun p => (toPysW f ds).map fun ps => p :: ps) = some ps := e
    cases q : toPyW f d with
    | none => rw [q] at e; cases e
    | some p =>
      rw [q] at e
      cases q2 : toPysW f ds with
      | none => rw [q2] at e; cases e
      | some ps' =>
        rw [q2] at e
        cases e
        subst e1
        cases r with
        | cons r1 r2 =>
          obtain ⟨as, g1, g2⟩ := reads_of hs I f hf d v p _ h1 q r1
          obtain ⟨bs, g3, g4⟩ := readss_of hs I f hf ds ws ps' _ h2 q2 r2
          exact ⟨as ++ bs, .cons g1 g3, fun z => (List.mem_append.mp z).elim g2 g4⟩
end
theorem toPysW_len {f : Nat → Option PyData} : ∀ {ds : List D} {ps : List PyData}, toPysW f ds = some ps → ps.length = ds.length
  | [], _, e => by cases e; rfl
  | d :: ds, ps, e => by
    have e : ((toPyW f d).bind fun p => (toPysW f ds).map fun ps => p :: ps) = some ps := e
    cases q : toPyW f d with
    | none => rw [q] at e; cases e
    | some p =>
      rw [q] at e
      cases q2 : toPysW f ds with
      | none => rw [q2] at e; cases e
      | some ps' => rw [q2] at e; cases e; rw [List.length_cons, List.length_cons, toPysW_len q2]
/-- a dict's entries, by its pairs -/
theorem pairs_key {P : Program} {w : World} : ∀ {es : List DictEntry} {vs : List (Key × Value)} {kvs : List (Key × V)} {h : Heap}, Pairs (mixKind P w) es vs → KV kvs vs →
    ReadsAll h (es.map (·.key)) (kvs.map fun q => tkey q.1) [] ∧ Vals (kvs.map (·.2)) (es.map (·.val))
  | _, _, _, h, .nil, r => by
    cases r
    exact ⟨.nil, .nil⟩
  | _, _, _, h, .cons (e := e) (kv := kv) (es := es) (kvs := vs) h1 h2 h3, r => by
    cases r with
    | @cons a _ as _ r1 r2 =>
      obtain ⟨a1, a2⟩ := r1
      obtain ⟨g1, g2⟩ := pairs_key (h := h) h3 r2
      refine ⟨?_, .cons (show RelV a.2 e.val by rw [h2]; exact a2) g2⟩
      have hk : keyIs kv.1 e.key = true := h1
      rcases keyIs_shape hk with ⟨i, t, e1, e2⟩ | ⟨x, t, e1, e2⟩
      · have : ReadsAll h (e.key :: es.map (·.key)) (tkey a.1 :: as.map fun q => tkey q.1) ([] ++ []) := by
          rw [a1, e1, e2]
          exact .cons (.int i t) g1
        exact this
      · have : ReadsAll h (e.key :: es.map (·.key)) (tkey a.1 :: as.map fun q => tkey q.1) ([] ++ []) := by
          rw [a1, e1, e2]
          exact .cons (.str x t) g1
        exact this
theorem reads_ref (hs : SysOk X.base) (I : Inv X pins σ H s) (rel : Rel X.K m S H) : ∀ (k n : Nat) (a : Addr) (p : PyData), m[n]? = some a → toPyR S k n = some p → RdS s.heap (.ref a) p
  | 0, _, _, _, _, e => by cases e
  | k + 1, n, a, p, h, e => by
    have ih := reads_ref hs I rel k
    unfold toPyR at e
    split at e
    · rename_i ds q
      obtain ⟨xs, h1, h2⟩ := rel.lst h q
      cases q3 : toPysW (toPyR S k) ds with
      | none => rw [q3] at e; cases e
      | some ps =>
        rw [q3] at e
        cases e
        obtain ⟨its, rv, ⟨o, nn, ho, hc, hdd, hd⟩, _⟩ := I.list (SqL.of h1)
        obtain ⟨as, g1, g2⟩ := readss_of hs I (toPyR S k) ih ds xs ps its h2 q3 rv
        refine ⟨a :: as, .list ho hc hd g1, fun z => ?_⟩
        rcases List.mem_cons.mp z with z | z
        · exact not_sys hs I ho hc z.symm
        · exact g2 z
    · rename_i kvs q
      obtain ⟨ws, h1, h2, h3⟩ := rel.obj n a _ h q
      cases q3 : toPysW (toPyR S k) (kvs.map (·.2)) with
      | none => rw [q3] at e; cases e
      | some ps =>
        rw [q3] at e
        cases e
        obtain ⟨_, hS, vs, r, o, es, ep, ho, hx, hd, hK, hP, _⟩ := (show ObjOk X.prog X.w H s.heap a (.dK ws) from I.hok a _ h1)
        obtain ⟨g1, g2⟩ := pairs_key (h := s.heap) hP r
        obtain ⟨as, g3, g4⟩ := readss_of hs I (toPyR S k) ih _ _ ps _ h3 q3 g2
        have hl : (kvs.map fun q => tkey q.1).length = ps.length := by rw [toPysW_len q3]; simp
        have hk : (ws.map fun q => tkey q.1) = kvs.map fun q => tkey q.1 := by
          have z := congrArg (List.map tkey) h2
          rw [List.map_map, List.map_map] at z
          exact z
        have e1 : ((kvs.map fun q => tkey q.1).zip ps).map (·.1) = kvs.map fun q => tkey q.1 := List.map_fst_zip (by omega)
        have e2 : ((kvs.map fun q => tkey q.1).zip ps).map (·.2) = ps := List.map_snd_zip (by omega)
        refine ⟨a :: [] ++ as, .dict ho hx.1 hd (by rw [e1, ← hk]; exact g1) (by rw [e2]; exact g3), fun z => ?_⟩
        rcases List.mem_cons.mp z with z | z
        · exact absurd z.symm (by simpa using hS)
        · exact g4 (by simpa using z)
    · cases e
theorem reads_py (hs : SysOk X.base) (I : Inv X pins σ H s) (rel : Rel X.K m S H) {d : D} {v : V} {p : PyData} {u : Value} (h : VR X.K m H d v) (e : toPy S d = some p) (r : RelV v u) : RdS s.heap u p :=
  reads_of hs I _ (reads_ref hs I rel 8) d v p u h e r

/-! ### comparisons -/
/-- a comparison by what the data say -/
def rCm (K : PySem.W.Frag) (c : Cm) : R2 := fun x y H Q => ∃ m S dx dy b, Rel K m S H ∧ VR K m H dx x ∧ VR K m H dy y ∧ cmpD S c dx dy = some b ∧ Q (.bl b) H
theorem cm2_cm {K : PySem.W.Frag} (c : Cm) : Cm2R K (rCm K c) (fun S => cmpD S c) := fun m H S x y dx dy b Q rel hx hy h q => ⟨m, S, dx, dy, b, rel, hx, hy, h, q⟩
def oCm : Cm → CmpOp
  | .lt => .Lt
  | .le => .LtE
  | .gt => .Gt
  | .ge => .GtE
  | .eq => .Eq
  | .ne => .NotEq
  | .isN => .Is
  | .notN => .IsNot
  | .isIn => .In
  | .notIn => .NotIn
theorem opr_int {f : Value → Value → Sem Value} {g : Int → Int → Bool} {K : PySem.W.Frag} {c : Cm} (ho : OpR X f (rI0 fun i j => .bl (g i j))) (hc : ∀ S x y b, cmpD S c x y = some b → ∃ i j, x = .int i ∧ y = .int j ∧ b = g i j) : OpR X f (rCm K c) := by
  intro pins s σ H x y v u Q I rx ry h
  obtain ⟨m, S, dx, dy, b, rel, hx, hy, e, q⟩ := h
  obtain ⟨i, j, e1, e2, e3⟩ := hc S dx dy b e
  subst e3
  exact ho pins s σ H x y v u Q I rx ry ⟨i, j, vr_int hx e1, vr_int hy e2, q⟩
theorem eq_cases {x y : D} {b : Bool} (h : eqD S x y = some b) : (∃ i j, x = .str i ∧ y = .str j ∧ b = decide (i = j)) ∨ ∃ p q, toPy S x = some p ∧ toPy S y = some q ∧ SeqAt.shaped p = true ∧ SeqAt.shaped q = true ∧ b = PyData.eqv p q := by
  have gen : ((toPy S x).bind fun p => (toPy S y).bind fun q => if (SeqAt.shaped p && SeqAt.shaped q) = true then some (PyData.eqv p q) else none) = some b →
      ∃ p q, toPy S x = some p ∧ toPy S y = some q ∧ SeqAt.shaped p = true ∧ SeqAt.shaped q = true ∧ b = PyData.eqv p q := fun h => by
    cases q1 : toPy S x with
    | none => rw [q1] at h; cases h
    | some p =>
      rw [q1] at h
      cases q2 : toPy S y with
      | none => rw [q2] at h; cases h
      | some q =>
        rw [q2] at h
        obtain ⟨hc, hb⟩ := if_some (show (if (SeqAt.shaped p && SeqAt.shaped q) = true then some (PyData.eqv p q) else none) = some b from h)
        rw [Bool.and_eq_true] at hc
        exact ⟨p, q, rfl, rfl, hc.1, hc.2, hb⟩
  cases x with
  | str i =>
    cases y with
    | str j => cases h; exact .inl ⟨i, j, rfl, rfl, rfl⟩
    | _ => exact .inr (gen h)
  | _ => exact .inr (gen h)
theorem opr_eq (hs : SysOk X.base) (hu : X.A.units + 64 < cLine) : OpR X (compareOp .Eq) (rCm X.K .eq) := by
  intro pins s σ H x y v u Q I rx ry h
  obtain ⟨m, S, dx, dy, b, rel, hx, hy, e, q⟩ := h
  rcases eq_cases (show eqD S dx dy = some b from e) with ⟨i, j, rfl, rfl, rfl⟩ | ⟨p, p2, e1, e2, s1, s2, rfl⟩
  · have hx : x = .str i := hx
    have hy : y = .str j := hy
    subst hx; subst hy
    refine op_eq pins s σ H _ _ v u Q I rx ry ⟨rfl, ?_⟩
    have : decide (V.str i = V.str j) = decide (i = j) := by simp
    rw [this]; exact q
  · obtain ⟨as, r1, _⟩ := reads_py hs I rel hx e1 rx
    obtain ⟨bs, r2, _⟩ := reads_py hs I rel hy e2 ry
    exact SeqAt.compareEq_shaped r1 r2 s1 s2 hu ⟨.bl _, H, I, rfl, q⟩
theorem opr_ne (hs : SysOk X.base) (hu : X.A.units + 64 < cLine) : OpR X (compareOp .NotEq) (rCm X.K .ne) := by
  intro pins s σ H x y v u Q I rx ry h
  obtain ⟨m, S, dx, dy, b, rel, hx, hy, e, q⟩ := h
  have e : (eqD S dx dy).map (fun b => !b) = some b := e
  cases e0 : eqD S dx dy with
  | none => rw [e0] at e; cases e
  | some b0 =>
    rw [e0] at e
    cases e
    rcases eq_cases e0 with ⟨i, j, rfl, rfl, rfl⟩ | ⟨p, p2, e1, e2, s1, s2, rfl⟩
    · have hx : x = .str i := hx
      have hy : y = .str j := hy
      subst hx; subst hy
      refine op_ne pins s σ H _ _ v u Q I rx ry ⟨rfl, ?_⟩
      have : decide (V.str i = V.str j) = decide (i = j) := by simp
      rw [this]; exact q
    · obtain ⟨as, r1, _⟩ := reads_py hs I rel hx e1 rx
      obtain ⟨bs, r2, _⟩ := reads_py hs I rel hy e2 ry
      exact SeqAt.compareNe_shaped r1 r2 s1 s2 hu ⟨.bl _, H, I, rfl, q⟩
theorem in_cases {x y : D} {b : Bool} (h : (seqAt S y).bind (inD x) = some b) : ∃ ys, seqAt S y = some ys ∧ flat x = true ∧ ys.all flat = true ∧ b = inV (fV x) (ys.map fV) := by
  cases q : seqAt S y with
  | none => rw [q] at h; cases h
  | some ys =>
    rw [q] at h
    obtain ⟨h1, h2⟩ := if_some (show (if (flat x && ys.all flat) = true then some (inV (fV x) (ys.map fV)) else none) = some b from h)
    rw [Bool.and_eq_true] at h1
    exact ⟨ys, rfl, h1.1, h1.2, h2⟩
theorem opr_in : OpR X (compareOp .In) (rCm X.K .isIn) := by
  intro pins s σ H x y v u Q I rx ry h
  obtain ⟨m, S, dx, dy, b, rel, hx, hy, e, q⟩ := h
  obtain ⟨ys, e1, f1, f2, e2⟩ := in_cases (show (seqAt S dy).bind (inD dx) = some b from e)
  obtain ⟨a, xs, e3, h1, h2⟩ := seq_rel rel hy e1
  obtain ⟨e4, f3⟩ := flat_V hx f1
  obtain ⟨e5, f4⟩ := flat_Vs h2 f2
  refine op_in_seq pins s σ H x y v u Q I rx ry ⟨a, xs, e3, h1, f3, f4, ?_⟩
  rw [if_neg Bool.false_ne_true, e4, e5, ← e2]
  exact q
theorem opr_notIn : OpR X (compareOp .NotIn) (rCm X.K .notIn) := by
  intro pins s σ H x y v u Q I rx ry h
  obtain ⟨m, S, dx, dy, b, rel, hx, hy, e, q⟩ := h
  have e : ((seqAt S dy).bind (inD dx)).map (fun b => !b) = some b := e
  cases e0 : (seqAt S dy).bind (inD dx) with
  | none => rw [e0] at e; cases e
  | some b0 =>
    rw [e0] at e
    cases e
    obtain ⟨ys, e1, f1, f2, e2⟩ := in_cases e0
    obtain ⟨a, xs, e3, h1, h2⟩ := seq_rel rel hy e1
    obtain ⟨e4, f3⟩ := flat_V hx f1
    obtain ⟨e5, f4⟩ := flat_Vs h2 f2
    refine op_notIn_seq pins s σ H x y v u Q I rx ry ⟨a, xs, e3, h1, f3, f4, ?_⟩
    rw [if_pos rfl, e4, e5, ← e2]
    exact q
theorem vr_none {K : PySem.W.Frag} {d : D} {v : V} (h : VR K m H d v) : decide (v = .non) = isNonD d := by
  cases d with
  | non => have h : v = .non := h; subst h; rfl
  | bl b => have h : v = .bl b := h; subst h; rfl
  | int b => have h : v = .int b := h; subst h; rfl
  | str b => have h : v = .str b := h; subst h; rfl
  | tup _ => obtain ⟨a, _, e, _⟩ := h; subst e; rfl
  | frz _ => obtain ⟨a, _, e, _⟩ := h; subst e; rfl
  | ref _ => obtain ⟨a, e, _⟩ := h; subst e; rfl
theorem opr_isN : OpR X (compareOp .Is) (rCm X.K .isN) := by
  intro pins s σ H x y v u Q I rx ry h
  obtain ⟨m, S, dx, dy, b, rel, hx, hy, e, q⟩ := h
  cases dy with
  | non =>
    have hy : y = .non := hy
    have e : some (isNonD dx) = some b := by cases dx <;> exact e
    cases e
    refine op_isN pins s σ H x y v u Q I rx ry ⟨hy, ?_⟩
    rw [vr_none hx]; exact q
  | _ => cases dx <;> cases e
theorem opr_notN : OpR X (compareOp .IsNot) (rCm X.K .notN) := by
  intro pins s σ H x y v u Q I rx ry h
  obtain ⟨m, S, dx, dy, b, rel, hx, hy, e, q⟩ := h
  cases dy with
  | non =>
    have hy : y = .non := hy
    have e : some (!isNonD dx) = some b := by cases dx <;> exact e
    cases e
    refine op_notN pins s σ H x y v u Q I rx ry ⟨hy, ?_⟩
    rw [vr_none hx]; exact q
  | _ => cases dx <;> cases e
theorem opr_cm (hs : SysOk X.base) (hu : X.A.units + 64 < cLine) : ∀ c, OpR X (compareOp (oCm c)) (rCm X.K c)
  | .lt => opr_int op_lt fun S x y b h => by
    cases x with
    | int i => cases y with
      | int j => cases h; exact ⟨i, j, rfl, rfl, rfl⟩
      | _ => cases h
    | _ => cases y <;> cases h
  | .le => opr_int op_le fun S x y b h => by
    cases x with
    | int i => cases y with
      | int j => cases h; exact ⟨i, j, rfl, rfl, rfl⟩
      | _ => cases h
    | _ => cases y <;> cases h
  | .gt => opr_int op_gt fun S x y b h => by
    cases x with
    | int i => cases y with
      | int j => cases h; exact ⟨i, j, rfl, rfl, rfl⟩
      | _ => cases h
    | _ => cases y <;> cases h
  | .ge => opr_int op_ge fun S x y b h => by
    cases x with
    | int i => cases y with
      | int j => cases h; exact ⟨i, j, rfl, rfl, rfl⟩
      | _ => cases h
    | _ => cases y <;> cases h
  | .eq => opr_eq hs hu
  | .ne => opr_ne hs hu
  | .isN => opr_isN
  | .notN => opr_notN
  | .isIn => opr_in
  | .notIn => opr_notIn
end
end Mi

end
section
set_option Elab.async false
set_option linter.all false
set_option maxRecDepth 100000
set_option maxHeartbeats 4000000
/-! Built-in functions, places, slices. -/
namespace Mi
open PySem L2 PySem.Spec PyProof.Rows
/-- what is wanted behind a value that is told with a store -/
abbrev Fin' (K : PySem.W.Frag) (m : List Addr) (H : Hp) (d : D) (S' : Sto) (Q : VK) : Prop := ∀ v H' m', Ext K m H m' H' → Rel K m' S' H' → VR K m' H' d v → Q v H'
def rBi (K : PySem.W.Frag) (b : Bi) : List V → Hp → VK → Prop := fun vs H Q => ∃ m S ds d S', Rel K m S H ∧ VRs K m H ds vs ∧ biD S b ds = some (d, S') ∧ Fin' K m H d S' Q
def rIxM (K : PySem.W.Frag) : R2 := fun x y H Q => ∃ m S dx dy d, Rel K m S H ∧ VR K m H dx x ∧ VR K m H dy y ∧ ixD S dx dy = some d ∧ ∀ v, VR K m H d v → Q v H
def rSlM (K : PySem.W.Frag) : V → Option Int → Option Int → Hp → VK → Prop := fun x lo hi H Q => ∃ m S dx d S', Rel K m S H ∧ VR K m H dx x ∧ slcD S dx lo hi = some (d, S') ∧ Fin' K m H d S' Q
section
variable {X : Cx}
theorem map_some {α β : Type} {x : Option α} {f : α → β} {b : β} (h : x.map f = some b) : ∃ a, x = some a ∧ f a = b := by
  cases x with
  | none => cases h
  | some a => exact ⟨a, rfl, Option.some.inj h⟩
theorem bind_some {α β : Type} {x : Option α} {f : α → Option β} {b : β} (h : x.bind f = some b) : ∃ a, x = some a ∧ f a = some b := by
  cases x with
  | none => cases h
  | some a => exact ⟨a, rfl, h⟩
theorem seq_len {S : Sto} {z : Str} : seqAt S (.str z) = none := rfl
theorem cr_bi {f : Value} {b : Bi} {r : List V → Hp → VK → Prop} (hc : CallR X f r) (h : ∀ m S ds d S' vs H (Q : VK), Rel X.K m S H → VRs X.K m H ds vs → biD S b ds = some (d, S') → Fin' X.K m H d S' Q → r vs H Q) : CallR X f (rBi X.K b) := by
  intro pins s σ H xs us Q I r h1
  obtain ⟨m, S, ds, d, S', rel, hv, e, q⟩ := h1
  exact hc pins s σ H xs us Q I r (h m S ds d S' xs H Q rel hv e q)
theorem bi_len : CallR X (.builtin "len") (rBi X.K .len) := by
  intro pins s σ H xs us Q I r h1
  obtain ⟨m, S, ds, d, S', rel, hv, e, q⟩ := h1
  cases ds with
  | nil => cases e
  | cons x l =>
    cases l with
    | cons _ _ => cases x <;> cases e
    | nil =>
      obtain ⟨v, e1, h1⟩ := hv.one
      have gen : (seqAt S x).map (fun ys => (D.int ys.length, S)) = some (d, S') → wpAny (model X.prog X.w) X.A (call (.builtin "len") us) (EP X pins σ Q) X.xe s := fun e => by
        obtain ⟨ys, g1, g2⟩ := map_some e
        cases g2
        obtain ⟨a, ws, e3, h2, h3⟩ := seq_rel rel h1 g1
        refine call_len_seq pins s σ H xs us Q I r ⟨a, ws, by rw [e1, e3], h2, ?_⟩
        exact q _ H m Ext.refl rel (show _ = V.int _ by rw [h3.length])
      cases x with
      | str z =>
        obtain ⟨g1, g2⟩ := if_some (show (if z.length ≤ sizeLine then some (D.int z.length, S) else none) = some (d, S') from e)
        cases g2
        have h1 : v = .str z := h1
        exact call_len_str pins s σ H xs us Q I r ⟨z, by rw [e1, h1], g1, q _ H m Ext.refl rel rfl⟩
      | _ => exact gen e
theorem bi_int : CallR X (.type "int") (rBi X.K .int) := cr_bi call_int1 fun m S ds d S' vs H Q rel hv e q => by
  cases ds with
  | nil => cases e
  | cons x l =>
    cases l with
    | cons _ _ => cases x <;> cases e
    | nil =>
      obtain ⟨v, e1, h1⟩ := hv.one
      subst e1
      cases x with
      | int i => cases e; have h1 : v = .int i := h1; subst h1; exact .inl ⟨i, rfl, q _ H m Ext.refl rel rfl⟩
      | bl b => cases e; have h1 : v = .bl b := h1; subst h1; exact .inr ⟨b, rfl, q _ H m Ext.refl rel rfl⟩
      | _ => cases e
theorem bi_abs : CallR X (.builtin "abs") (rBi X.K .abs) := cr_bi call_abs fun m S ds d S' vs H Q rel hv e q => by
  cases ds with
  | nil => cases e
  | cons x l =>
    cases l with
    | cons _ _ => cases x <;> cases e
    | nil =>
      obtain ⟨v, e1, h1⟩ := hv.one
      subst e1
      cases x with
      | int i => cases e; have h1 : v = .int i := h1; subst h1; exact ⟨i, rfl, q _ H m Ext.refl rel rfl⟩
      | _ => cases e
theorem two_ints {S : Sto} {b : Bi} (f : Int → Int → Int) (hb : ∀ ds w, biD S b ds = some w → ∃ i j, ds = [.int i, .int j] ∧ w = (.int (f i j), S)) {m : List Addr} {H : Hp} {ds : List D} {vs : List V} {d : D} {S' : Sto} {Q : VK} {K : PySem.W.Frag}
    (rel : Rel K m S H) (hv : VRs K m H ds vs) (e : biD S b ds = some (d, S')) (q : Fin' K m H d S' Q) : ∃ i j, vs = [.int i, .int j] ∧ Q (.int (f i j)) H := by
  obtain ⟨i, j, e1, e2⟩ := hb ds _ e
  subst e1
  cases e2
  obtain ⟨v, w, e3, h1, h2⟩ := hv.two
  have h1 : v = .int i := h1
  have h2 : w = .int j := h2
  subst h1; subst h2
  exact ⟨i, j, e3, q _ H m Ext.refl rel rfl⟩
theorem bi_min (hc : X.calm = true) : CallR X (.builtin "min") (rBi X.K .min2) := cr_bi (call_min2 hc) fun m S ds d S' vs H Q rel hv e q => two_ints (b := .min2) (fun i j => if j < i then j else i) (fun ds w h => by
    unfold biD at h
    split at h <;> first | (cases h; exact ⟨_, _, rfl, rfl⟩) | (rename_i hh; cases hh) | cases h) rel hv e q
theorem bi_max (hc : X.calm = true) : CallR X (.builtin "max") (rBi X.K .max2) := cr_bi (call_max2 hc) fun m S ds d S' vs H Q rel hv e q => two_ints (b := .max2) (fun i j => if j > i then j else i) (fun ds w h => by
    unfold biD at h
    split at h <;> first | (cases h; exact ⟨_, _, rfl, rfl⟩) | (rename_i hh; cases hh) | cases h) rel hv e q
theorem bi_str : CallR X (.type "str") (rBi X.K .str) := cr_bi call_str_int fun m S ds d S' vs H Q rel hv e q => by
  cases ds with
  | nil => cases e
  | cons x l =>
    cases l with
    | cons _ _ => cases x <;> cases e
    | nil =>
      obtain ⟨v, e1, h1⟩ := hv.one
      subst e1
      cases x with
      | int i =>
        obtain ⟨g1, g2⟩ := if_some (show (if i.natAbs.log2 < 1920 then some (D.str (toString i), S) else none) = some (d, S') from e)
        cases g2
        have h1 : v = .int i := h1
        subst h1
        exact ⟨i, rfl, g1, q _ H m Ext.refl rel rfl⟩
      | _ => cases e
theorem one_lst {b : Bi} {S : Sto} {ds : List D} {w : D × Sto} (f : List D → Option (D × Sto)) (hb : ∀ r, biD S b [.ref r] = (lstAt S r).bind f) (hn : ∀ ds w, biD S b ds = some w → ∃ r, ds = [.ref r]) (h : biD S b ds = some w) :
    ∃ r xs, ds = [.ref r] ∧ S[r]? = some (.lst xs) ∧ f xs = some w := by
  obtain ⟨r, e⟩ := hn ds w h
  subst e
  rw [hb r] at h
  obtain ⟨xs, g1, g2⟩ := bind_some h
  exact ⟨r, xs, rfl, lstAt_some g1, g2⟩
theorem bi_all (hc : X.calm = true) : CallR X (.builtin "all") (rBi X.K .all) := cr_bi (cr_all hc) fun m S ds d S' vs H Q rel hv e q => by
  obtain ⟨r, xs, e1, g1, g2⟩ := one_lst (b := .all) (fun xs => (blsOf xs).map fun bs => (.bl (bs.all id), S)) (fun r => rfl) (fun ds w h => by
    unfold biD at h
    split at h <;> first | (exact ⟨_, rfl⟩) | (rename_i hh; cases hh) | cases h) e
  subst e1
  obtain ⟨v, e2, a, e3, h1⟩ := hv.one
  obtain ⟨bs, g3, g4⟩ := map_some g2
  cases g4
  obtain ⟨ws, h2, h3⟩ := rel.lst h1 g1
  subst e2 e3
  exact ⟨a, bs, rfl, SqL.of (by rw [h2, bls_rel h3 g3]), q _ H m Ext.refl rel rfl⟩
theorem bi_any (hc : X.calm = true) : CallR X (.builtin "any") (rBi X.K .any) := cr_bi (cr_any hc) fun m S ds d S' vs H Q rel hv e q => by
  obtain ⟨r, xs, e1, g1, g2⟩ := one_lst (b := .any) (fun xs => (blsOf xs).map fun bs => (.bl (bs.any id), S)) (fun r => rfl) (fun ds w h => by
    unfold biD at h
    split at h <;> first | (exact ⟨_, rfl⟩) | (rename_i hh; cases hh) | cases h) e
  subst e1
  obtain ⟨v, e2, a, e3, h1⟩ := hv.one
  obtain ⟨bs, g3, g4⟩ := map_some g2
  cases g4
  obtain ⟨ws, h2, h3⟩ := rel.lst h1 g1
  subst e2 e3
  exact ⟨a, bs, rfl, SqL.of (by rw [h2, bls_rel h3 g3]), q _ H m Ext.refl rel rfl⟩
theorem bi_sum (hc : X.calm = true) : CallR X (.builtin "sum") (rBi X.K .sum) := cr_bi (cr_sum hc) fun m S ds d S' vs H Q rel hv e q => by
  obtain ⟨r, xs, e1, g1, g2⟩ := one_lst (b := .sum) (fun xs => (intsOf xs).map fun is => (.int is.sum, S)) (fun r => rfl) (fun ds w h => by
    unfold biD at h
    split at h <;> first | (exact ⟨_, rfl⟩) | (rename_i hh; cases hh) | cases h) e
  subst e1
  obtain ⟨v, e2, a, e3, h1⟩ := hv.one
  obtain ⟨bs, g3, g4⟩ := map_some g2
  cases g4
  obtain ⟨ws, h2, h3⟩ := rel.lst h1 g1
  subst e2 e3
  exact ⟨a, bs, rfl, SqL.of (by rw [h2, ints_rel h3 g3]), q _ H m Ext.refl rel rfl⟩
theorem bi_lst : CallR X (.type "list") (rBi X.K .lst) := cr_bi call_list_of fun m S ds d S' vs H Q rel hv e q => by
  cases ds with
  | nil => cases e
  | cons x l =>
    cases l with
    | cons _ _ => cases x <;> cases e
    | nil =>
      obtain ⟨v, e1, h1⟩ := hv.one
      have e : (seqAt S x).map (fun ys => (D.ref S.length, S ++ [.lst ys])) = some (d, S') := by cases x <;> exact e
      obtain ⟨ys, g1, g2⟩ := map_some e
      cases g2
      obtain ⟨a, ws, e3, h2, h3⟩ := seq_rel rel h1 g1
      subst e1 e3
      refine ⟨a, ws, rfl, h2, fun l hl => ?_⟩
      obtain ⟨a1, a2, a3⟩ := new_lst rel hl h3
      exact q _ _ _ a1 a2 a3
/-- a new tuple: the store stays -/
theorem new_tup {K : PySem.W.Frag} {m : List Addr} {S : Sto} {H : Hp} {ds : List D} {vs : List V} {p : Addr} (rel : Rel K m S H) (hp : H p = none) (hv : VRs K m H ds vs) :
    Ext K m H m (upd H p (.tup vs)) ∧ Rel K m S (upd H p (.tup vs)) ∧ VR K m (upd H p (.tup vs)) (.tup ds) (.ref p) := by
  have e := Ext.new (o := .tup vs) rel hp [] (by simp)
  rw [List.append_nil] at e
  exact ⟨e, ⟨rel.len, rel.inj, fun n a o g1 g2 => OR.mono e (upd_ne fun z => rel.fresh hp (z ▸ List.mem_of_getElem? g1)) (rel.obj n a o g1 g2)⟩, p, vs, rfl, SqT.of upd_same, VRs.mono e _ _ hv⟩
theorem bi_tuple : CallR X (.type "tuple") (rBi X.K .tuple) := cr_bi call_tuple_of fun m S ds d S' vs H Q rel hv e q => by
  cases ds with
  | nil => cases e
  | cons x l =>
    cases l with
    | cons _ _ => cases x <;> cases e
    | nil =>
      obtain ⟨v, e1, h1⟩ := hv.one
      have e : (seqAt S x).map (fun ys => (D.tup ys, S)) = some (d, S') := by cases x <;> exact e
      obtain ⟨ys, g1, g2⟩ := map_some e
      cases g2
      obtain ⟨a, ws, e3, h2, h3⟩ := seq_rel rel h1 g1
      subst e1 e3
      refine ⟨a, ws, rfl, ?_⟩
      rcases h2 with h2 | h2
      · refine .inl ⟨h2, fun l hl => ?_⟩
        obtain ⟨a1, a2, a3⟩ := new_tup rel hl h3
        exact q _ _ _ a1 a2 a3
      · exact .inr ⟨h2, q _ H m Ext.refl rel ⟨a, ws, rfl, h2, h3⟩⟩
theorem depth_ref {f : Nat → Option PyData} {d : D} {p : PyData} (h : toPyW f d = some p) : True := trivial
theorem bi_repr (hs : SysOk X.base) (hg : X.A.guards = some []) (hu : X.A.units + 64 < cLine) : CallR X (.builtin "repr") (rBi X.K .repr) := by
  intro pins s σ H xs us Q I r h1
  obtain ⟨m, S, ds, d, S', rel, hv, e, q⟩ := h1
  cases ds with
  | nil => cases e
  | cons x l =>
    cases l with
    | cons _ _ => cases x <;> cases e
    | nil =>
      obtain ⟨v, e1, h1⟩ := hv.one
      subst e1
      obtain ⟨u, eu, ru⟩ := vals1 r
      subst eu
      have e : (reprD S x).map (fun z => (D.str z, S)) = some (d, S') := by cases x <;> exact e
      obtain ⟨z, g1, g2⟩ := map_some e
      cases g2
      obtain ⟨p, g3, g4⟩ := bind_some g1
      obtain ⟨⟨c1, c2, c3⟩, g5⟩ := if_some (show (if p.showable = true ∧ p.depth ≤ 40 ∧ p.shown.length ≤ sizeLine then some p.shown else none) = some z from g4)
      subst g5
      obtain ⟨as, rd, ns⟩ := reads_py hs I rel h1 g3 ru
      have fin : ∀ (h' : Heap) (t : Tok) (tk : Nat), (∀ b o, s.heap.get? b = some o → h'.get? b = some o) → EP X pins σ Q (.str p.shown t) { s with heap := h', toks := tk } := fun h' t tk k =>
        ⟨.str p.shown, H, I.kept k, ⟨t, rfl⟩, q _ H m Ext.refl rel rfl⟩
      cases rd with
      | none => exact PySem.P.repr_of_none (fin _ _ _ fun _ _ z => z)
      | bool b =>
        refine PySem.P.repr_of_bool ?_
        have e3 : (PyData.bool b).shown = (if b = true then Str.ofString "True" else Str.ofString "False") := by simp [PyData.shown]
        have := fin s.heap s.toks (s.toks + 1) fun _ _ z => z
        rw [e3] at this
        exact this
      | int i t =>
        have hi : i.natAbs.log2 < 1920 := by simpa [PyData.showable] using c1
        refine PySem.P.repr_of_int hi ?_
        have := fin s.heap s.toks (s.toks + 1) fun _ _ z => z
        simpa [PyData.shown] using this
      | str y t =>
        have e3 : (PyData.str y).shown = reprText y := by simp [PyData.shown]
        refine PySem.P.repr_of_str ?_ (by rw [← e3]; exact c3)
        have := fin s.heap s.toks (s.toks + 1) fun _ _ z => z
        rw [e3] at this
        exact this
      | list a1 a2 a3 a4 => exact repr_of_reads' (.list a1 a2 a3 a4) c1 (fun _ => ns) hg (by omega) (fun _ _ z => z) (fun h' t tk k => fin h' t tk k) c3
      | tuple a1 a2 a3 a4 => exact repr_of_reads' (.tuple a1 a2 a3 a4) c1 (fun _ => ns) hg (by omega) (fun _ _ z => z) (fun h' t tk k => fin h' t tk k) c3
      | dict a1 a2 a3 a4 a5 => exact repr_of_reads' (.dict a1 a2 a3 a4 a5) c1 (fun _ => ns) hg (by omega) (fun _ _ z => z) (fun h' t tk k => fin h' t tk k) c3
/-! ### places -/
theorem at_rel {K : PySem.W.Frag} {m : List Addr} {H : Hp} {ds : List D} {vs : List V} {i : Int} {d : D} (h : VRs K m H ds vs) (e : atI ds i = some d) : ∃ v, atI vs i = some v ∧ VR K m H d v := by
  unfold atI at e ⊢
  rw [h.length]
  obtain ⟨j, g1, g2⟩ := bind_some e
  obtain ⟨v, g3, g4⟩ := h.get g2
  exact ⟨v, by rw [g1]; exact g3, g4⟩
theorem ix_mi : IxR X (rIxM X.K) := by
  intro value slice pins s σ H x y v u Q I rx ry h hsub
  obtain ⟨m, S, dx, dy, d, rel, hx, hy, e, q⟩ := h
  cases dy with
  | int i =>
    have hy : y = .int i := hy
    subst hy
    have gen : (seqAt S dx).bind (fun xs => atI xs i) = some d → wpAny (model X.prog X.w) X.A (subscriptTail value slice v u) (EP X pins σ Q) X.xe s := fun e => by
      obtain ⟨ys, g1, g2⟩ := bind_some e
      obtain ⟨a, ws, e3, h2, h3⟩ := seq_rel rel hx g1
      obtain ⟨z, g3, g4⟩ := at_rel h3 g2
      subst e3
      rcases h2 with h2 | h2
      · exact ix_seq value slice pins s σ H _ _ v u Q I rx ry (.inl ⟨a, ws, i, z, rfl, rfl, h2, g3, q z g4⟩) hsub
      · exact ix_seq value slice pins s σ H _ _ v u Q I rx ry (.inr (.inl ⟨a, ws, i, z, rfl, rfl, h2, g3, q z g4⟩)) hsub
    cases dx with
    | str z =>
      have hx : x = .str z := hx
      subst hx
      obtain ⟨g1, g2⟩ : z.length ≤ sizeLine ∧ (atI z.cps.toList i).map (fun c => D.str ⟨#[c]⟩) = some d := by
        have e : (if z.length ≤ sizeLine then (atI z.cps.toList i).map (fun c => D.str ⟨#[c]⟩) else none) = some d := e
        split at e
        · rename_i hz; exact ⟨hz, e⟩
        · cases e
      obtain ⟨c, g3, g4⟩ := map_some g2
      subst g4
      exact ix_seq value slice pins s σ H _ _ v u Q I rx ry (.inr (.inr ⟨z, i, c, rfl, rfl, g1, g3, q _ rfl⟩)) hsub
    | _ => exact gen e
  | _ => cases dx <;> cases e
/-! ### slices -/
theorem sl_mi : SlR X (rSlM X.K) := by
  intro pins s σ H x v vl vu lo hi sl Q I rx hs pl pu h
  obtain ⟨m, S, dx, d, S', rel, hx, e, q⟩ := h
  cases dx with
  | tup ds =>
    cases e
    obtain ⟨a, xs, e1, h1, h2⟩ := hx
    refine sl_tupA pins s σ H x v vl vu lo hi sl Q I rx hs pl pu ⟨a, xs, e1, h1, fun hw => ?_, fun hw p hp => ?_⟩
    · refine q _ H m Ext.refl rel ⟨a, xs, rfl, h1, ?_⟩
      have hl := h2.length
      have : cutD ds lo hi = ds := by
        unfold cutD
        rw [← hl, hw.1, hw.2]
        simp [hl]
      rw [this]; exact h2
    · obtain ⟨a1, a2, a3⟩ := new_tup rel hp (cut_rel h2 lo hi)
      exact q _ _ _ a1 a2 a3
  | frz ds =>
    cases e
    obtain ⟨a, xs, e1, h1, h2⟩ := hx
    refine sl_list pins s σ H x v vl vu lo hi sl Q I rx hs pl pu ⟨a, xs, e1, h1.sql, fun p hp => ?_⟩
    obtain ⟨a1, a2, a3⟩ := new_lst rel hp (cut_rel h2 lo hi)
    exact q _ _ _ a1 a2 a3
  | ref n =>
    have e : (lstAt S n).map (fun xs => (D.ref S.length, S ++ [.lst (cutD xs lo hi)])) = some (d, S') := e
    obtain ⟨ds, g1, g2⟩ := map_some e
    cases g2
    obtain ⟨a, e1, h1⟩ := hx
    obtain ⟨xs, h2, h3⟩ := rel.lst h1 (lstAt_some g1)
    refine sl_list pins s σ H x v vl vu lo hi sl Q I rx hs pl pu ⟨a, xs, e1, SqL.of h2, fun p hp => ?_⟩
    obtain ⟨a1, a2, a3⟩ := new_lst rel hp (cut_rel h3 lo hi)
    exact q _ _ _ a1 a2 a3
  | _ => cases e
end
end Mi

end
section
set_option Elab.async false
set_option linter.all false
set_option maxRecDepth 100000
set_option maxHeartbeats 400000
/-! Calls of the text's defs, from where no repr runs. -/
namespace Mi
open PySem L2 PySem.Spec PyProof.Rows
structure FnG (P : Program) (w : World) (K : PySem.W.Frag) (mg : Str → Option Value) (base : Heap) (k : Nat) (f : Addr) (fd : FuncData) (ps : List Str) (sp : Sp) : Prop where
  lens : ∀ vs H Q E, sp vs H Q E → vs.length = ps.length
  goes : ∀ (A : Around) (out : List Env) (s : Shared) (H : Hp) (us : List Value) (vs : List V) (Q : VK) (E : XK), A.guards = some [] → Room k A → Env0 P w K mg base A out s H →
    BindsTo s fd ⟨us, []⟩ (ps.zip us) → Vals vs us → sp vs H Q E → codeAny (model P w) A (.call (.ref f) ⟨us, []⟩) (CR (L2.CX P w) out P w H s Q E) s
theorem FnG.up {P : Program} {w : World} {K : PySem.W.Frag} {mg : Str → Option Value} {base : Heap} {j k : Nat} {f : Addr} {fd : FuncData} {ps : List Str} {sp : Sp} (F : FnG P w K mg base j f fd ps sp) (h : j ≤ k) : FnG P w K mg base k f fd ps sp :=
  ⟨F.lens, fun A out s H us vs Q E hg hr => F.goes A out s H us vs Q E hg (hr.mono h)⟩
section
variable {X : Cx} {k : Nat} {f : Addr} {fd : FuncData} {ps : List Str} {sp : Sp} {E : XK} {x : Str} {p pos : Pos} {e : Expr} {es : List Expr} {t : TA}
theorem goG {pins : List (Addr × Obj)} {σ : L2.St} {H : Hp} {s : Shared} {Q : VK} {us : List Value} {vs : List V} (F : FnG X.prog X.w X.K X.mg X.base k f fd ps sp) (hg : X.A.guards = some []) (hr : Room k X.A) (hb : Binds X.K fd ps [])
    (hx : Passes (L2.CX X.prog X.w) X E) (I : L2.Inv X pins σ H s) (r : Vals vs us) (h : sp vs H Q E) : wpAny (model X.prog X.w) X.A (call (.ref f) us) (EP X pins σ Q) X.xe s := by
  have hl : us.length = ps.length := by rw [← r.length]; exact F.lens _ _ _ _ h
  have bd : BindsTo s fd ⟨us, []⟩ (ps.zip us) := by
    have z := hb s us I.kIn (by rw [List.append_nil]; exact hl)
    rw [List.append_nil] at z
    exact z
  refine wpAny_call (codeAny_mono (F.goes X.A X.stack s H us vs Q E hg hr I.env0 bd r h) ?_)
  intro res s2 hq
  cases res with
  | error err => exact hx pins σ H s err s2 I hq
  | ok fl =>
    cases fl with
    | ret u => exact I.after hq
    | next => exact False.elim hq
    | brk => exact False.elim hq
    | cont => exact False.elim hq
theorem pe_callM (F : FnG X.prog X.w X.K X.mg X.base k f fd ps sp) (hgd : X.A.guards = some []) (hr : Room k X.A) (hg : Gl X x) (hm : X.mg x = some (.ref f)) (hk : PySem.W.keepIn X.K (.ref f) = true) (hb : Binds X.K fd ps [])
    (hx : Passes (L2.CX X.prog X.w) X E) (ha : PA X (e :: es) t) (hdb : (x == ("__debug__" : Str)) = false) (he : starEach (e :: es) X.env = (false, eval e X.env) :: starEach es X.env)
    (hpl : (backTo pos (starEach es X.env)).any (·.1) = false) : PE X (.Call (.Name x p) (e :: es) [] pos) (tCall sp [] E t) := by
  constructor
  intro pins s σ H Q I h
  refine wpAny_Call_Name_kw (ld_glob I hg hm (PySem.W.callWith_K (h₀ := X.base) I.ok.mod.kin hk (thn (ha.run pos pins s σ H _ I h) ?_) he hpl) hdb)
  intro us s1 ⟨vs, H1, I1, r, q⟩
  refine ⟨I1.kIn, goG F hgd hr hb hx I1 r ?_⟩
  have q : sp (vs ++ []) H1 Q E := q
  rw [List.append_nil] at q
  exact q
end
/-- a def's promise, by its body -/
theorem fnG_of {P : Program} {w : World} {K : PySem.W.Frag} {mg : Str → Option Value} {base : Heap} {k : Nat} {f : Addr} {nm qual : Str} {prm : Arguments} {body : List Stmt} {sc : Scope} {fd : FuncData} {N ps : List Str} {sp : Sp}
    (F : FunD K nm qual prm body sc [] [] f fd) (S : FnScope N ps sc) (lens : ∀ vs H Q E, sp vs H Q E → vs.length = ps.length)
    (hb : ∀ (cd : Value) (A : Around) (out : List Env) (s : Shared) (H : Hp) (vs : List V) (Q : VK) (E : XK), A.guards = some [] → Room k (A.deeper (envOfC qual sc s.heap.objs.size f cd)) → sp vs H Q E →
      ∃ t, PSs (cxOf (L2.CX P w) P w K mg base N qual sc f cd A out s H E) body t ∧ t { nx := fun _ H' => Q .non H', rt := Q } (L2.start N vs) H) : FnG P w K mg base (k + 1) f fd ps sp := by
  obtain ⟨oc, od, dV, kV, doc, pm, an, cd, ct, osl, efd, lk, hcd, _, _⟩ := F.ex
  refine ⟨lens, ?_⟩
  intro A out s H us vs Q E hg hr e0 bd r hsp
  subst efd
  have hl := lens _ _ _ _ hsp
  have KX : K.In s.heap := e0.mod.kin.keeps fun b o e => (e0.bs b o e).1
  have lim : s.heap.NoLimit := e0.mod.nolimit.keeps fun b o e => (e0.bs b o e).1
  have kd : ∀ y ∈ ps.zip us, sc.names.lookup y.1 = some .local ∨ (sc.names.lookup y.1 = some .cell ∧ ((cellsFrom (s.heap.objs.size + 1) sc.names []).lookup y.1).isSome = true) := by
    intro y hy
    have hm : y.1 ∈ ps := (List.of_mem_zip (a := y.1) (b := y.2) hy).1
    exact (S.par y.1 hm).imp id fun q => ⟨q, PySem.W.cellsFrom_some _ _ _ (.inl q)⟩
  refine codeAny_call_function hr.depth (KX _ _ lk) rfl S.co S.gen rfl (PySem.W.codeRec_of KX hcd) (bd _ _ _ _ (wpAny_newFunctionEnv_cells S.kind kd ?_))
  intro env he s1 x
  subst he
  refine ⟨lim.keeps x.toInCall.keep, codeAny_func ?_⟩
  obtain ⟨t, ht, hq⟩ := hb cd A out s H vs Q E hg (hr.deeper _) hsp
  have I := inv_start (CX := L2.CX P w) (mg := mg) (qual := qual) (E := E) S hr.hd e0 hl r x
  have fin : ∀ {s2 : Shared} {σ2 : L2.St} {H2 : Hp} {v : V} {u : Value}, L2.Inv (cxOf (L2.CX P w) P w K mg base N qual sc f cd A out s H E) [] σ2 H2 s2 → RelV v u → Q v H2 → CE out P w H s Q u s2 :=
    fun {s2 σ2 H2 v u} J rv q => ⟨v, H2, J.os, J.bare, J.base, J.hok, rv, q⟩
  refine wpAny_mono (ht.run [] s1 (L2.start N vs) H _ I hq) ?_ fun _ _ z => z
  intro fl s2 hs
  cases fl with
  | ret u => exact hs.elim fun v hs => hs.elim fun σ2 hs => hs.elim fun H2 hs => fin hs.1 hs.2.1 hs.2.2
  | next => exact hs.elim fun σ2 hs => hs.elim fun H2 hs => fin (v := V.non) (u := Value.none) hs.1 rfl hs.2
  | brk => exact hs.elim fun σ2 hs => hs.elim fun H2 hs => hs.2.elim
  | cont => exact hs.elim fun σ2 hs => hs.elim fun H2 hs => hs.2.elim
/-- the law's call -/
theorem law_callG {P : Program} {w : World} {K : PySem.W.Frag} {mg mb : Str → Option Value} {k : Nat} {fa a : Addr} {fd : FuncData} {x : Str} {sp : Sp} {s₁ : Shared} {vs : List Value} {ns : List Int} (KX : K.In s₁.heap) (hns : s₁.heap.Ns mainGlobals mg)
    (hb : s₁.heap.Ns builtinsNs mb) (hbb : ∀ y : Str, y ≠ "__name__" → mb y = bootBuiltins y) (hlim : s₁.heap.NoLimit) (hgn : s₁.gens = #[]) (ha : s₁.heap.get? a = some { cls := .type "list", data := .seq vs.toArray }) (hi : IntsAre vs ns)
    (hl : ns.length ≤ sizeLine) (hr : Room k callerA) (hsys : SysOk s₁.heap) (F : ∀ base : Heap, SysOk base → K.In base → base.Ns mainGlobals mg → FnG P w K mg base k fa fd [x] sp) (hbind : ∀ (s : Shared) (u : Value), BindsTo s fd ⟨[u], []⟩ [(x, u)])
    (hsp : ∀ H : Hp, FzL K H a (ns.map V.int) → sp [.ref a] H (fun v _ => v = .bl true) fun _ _ _ => False) :
    codeAny (model P w) callerA (.call (.ref fa) ⟨[.ref a], []⟩) (fun r s' => r = .ok (.ret (.bool true)) ∧ OldK s₁.heap s'.heap ∧ s'.os = s₁.os ∧ AllBare s'.gens) s₁ := by
  have rv := vals_ints hi
  have lenV := hi.length
  have nsys : a ≠ sysModules := by
    intro e
    obtain ⟨o, h1, h2⟩ := hsys
    rw [e, h1] at ha
    cases ha
    have h2 : Value.type "list" = Value.type "dict" := h2
    exact absurd h2 (by decide)
  have main : ∀ H : Hp, Only H → FzL K H a (ns.map V.int) → HOk P w H s₁.heap → (∀ b, H b ≠ none → b = a) → (H a ≠ none → K.lookup a = none) →
      codeAny (model P w) callerA (.call (.ref fa) ⟨[.ref a], []⟩) (fun r s' => r = .ok (.ret (.bool true)) ∧ OldK s₁.heap s'.heap ∧ s'.os = s₁.os ∧ AllBare s'.gens) s₁ := by
    intro H hO hS hok hA hK
    have at_none : ∀ {b : Addr}, b ≠ a → H b = none := fun {b} nb => by
      cases q : H b with
      | none => rfl
      | some u => exact absurd (hA b (by rw [q]; exact Option.some_ne_none u)) nb
    have bof : ∀ {b : Addr} {o : Obj}, s₁.heap.get? b = some o → H b = none → (hidT s₁.heap H).get? b = some o := fun e n => hidT_get e n
    have nsB : ∀ {b : Addr} {m : Str → Option Value}, s₁.heap.Ns b m → (hidT s₁.heap H).Ns b m := by
      intro b m ⟨o, es, ep, e, d, r⟩
      refine ⟨o, es, ep, bof e (at_none ?_), d, r⟩
      intro z
      subst z
      rw [ha] at e
      cases e
      cases (show Data.seq vs.toArray _ = Data.dict es ep from d)
    have hKb : K.In (hidT s₁.heap H) := by
      intro b o e
      refine bof (KX b o e) ?_
      cases q : H b with
      | none => rfl
      | some u =>
        have eb : b = a := hA b (by rw [q]; exact Option.some_ne_none u)
        have := hK (by rw [← eb, q]; exact Option.some_ne_none u)
        rw [← eb, e] at this
        cases this
    have hsb : SysOk (hidT s₁.heap H) := by
      obtain ⟨o, h1, h2⟩ := hsys
      exact ⟨o, bof h1 (at_none fun z => nsys z.symm), h2⟩
    have hM : Mod K mg (hidT s₁.heap H) := by
      obtain ⟨mc, h1, h2⟩ := hlim
      exact ⟨hKb, nsB hns, ⟨mb, nsB hb, hbb⟩, mc, nsB h1, h2⟩
    have e0 : Env0 P w K mg (hidT s₁.heap H) callerA [] s₁ H := ⟨rfl, hM, fun b o e => of_hidT e, Nat.le_of_eq (hidT_size _ _), trivial, (fun b hb => nomatch (show b ∈ ([] : List Addr) from hb)), hok, .of_eq hgn⟩
    refine codeAny_mono ((F _ hsb hKb (nsB hns)).goes callerA [] s₁ H [.ref a] [.ref a] _ _ rfl hr e0 (hbind s₁ (.ref a)) (.cons rfl .nil) (hsp H hS)) ?_
    intro r s2 h
    match r, h with
    | .error err, ⟨_, _, _, _, _, _, _, _, _, _, _, _, z⟩ => exact z.elim
    | .ok (.ret u), ⟨v, H2, os, bare, un, hok2, r2, q⟩ =>
      have q : v = .bl true := q
      subst q
      have r2 : u = Value.bool true := r2
      subst r2
      refine ⟨rfl, OldK.of_keep fun b o e => ?_, os, bare⟩
      cases q : H b with
      | none => exact un.keep b o e q (fun z => nomatch (show b ∈ ([] : List Addr) from z)) (fun z => nomatch z)
      | some u =>
        rcases hO b with z | ⟨ob, xs, z⟩
        · rw [q] at z; cases z
        · obtain ⟨e1, _⟩ := hok b _ z
          obtain ⟨e2, _⟩ := hok2 b _ (un.frzs b ob _ z)
          rw [e] at e1
          cases e1
          exact e2
  cases hk : K.lookup a with
  | some o =>
    have e := KX a o hk
    rw [ha] at e
    cases e
    refine main (fun _ => none) (fun _ => .inl rfl) (.inr (.inr ⟨_, vs.toArray, _, hk, rfl, rfl, rfl, by rw [List.size_toArray, lenV]; exact hl, by simpa using rv⟩)) (fun b u z => (nomatch (show (none : Option HO) = some u from z))) (fun b z => absurd rfl z) fun z => absurd rfl z
  | none =>
    have hat : ∀ b u, (if b = a then some (HO.frz { cls := .type "list", data := .seq vs.toArray } (.lst (ns.map V.int))) else none) = some u → b = a ∧ u = HO.frz { cls := .type "list", data := .seq vs.toArray } (.lst (ns.map V.int)) := by
      intro b u z
      split at z
      · rename_i hb'; cases z; exact ⟨hb', rfl⟩
      · cases z
    refine main (fun b => if b = a then some (.frz { cls := .type "list", data := .seq vs.toArray } (.lst (ns.map V.int))) else none) ?_ (.inl ⟨_, if_pos rfl⟩) ?_ ?_ fun _ => hk
    · intro b
      by_cases hb' : b = a
      · exact .inr ⟨_, _, if_pos hb'⟩
      · exact .inl (if_neg hb')
    · intro b u z
      obtain ⟨e1, e2⟩ := hat b u z
      subst e1 e2
      exact ⟨ha, by rw [List.length_map]; exact hl, vs, _, rv, ha⟩
    · intro b z
      by_cases hb' : b = a
      · exact hb'
      · exact absurd (if_neg hb') z
/-- a law, from its def's promise -/
theorem walk_G {l : PySem.W.OpenLaw} {n k : Nat} {q : Program} {loose : List Str} {XP : (Str → Option Value) → Heap → Prop} {YP : World → Heap → Prop} {d : DefRec} {x : Str} (hn : l.most = some n) (hn2 : n ≤ sizeLine) (hdf : d.params.defaults = []) (hr : Room k callerA)
    (F : ∀ (w : World) (mg : Str → Option Value) (fa : Addr) (h : Heap), YP w h → h.Ns mainGlobals mg → mg d.name = some (.ref fa) → ∃ (K : PySem.W.Frag) (fd : FuncData) (sp : Sp), K.In h ∧ SysOk h ∧ (∀ (s : Shared) (u : Value), BindsTo s fd ⟨[u], []⟩ [(x, u)]) ∧
      (∀ (H : Hp) (a : Addr) (ns : List Int), ns.length ≤ n → FzL K H a (ns.map V.int) → sp [.ref a] H (fun v _ => v = .bl true) fun _ _ _ => False) ∧
      ∀ base : Heap, SysOk base → K.In base → base.Ns mainGlobals mg → FnG l.prog w K mg base k fa fd [x] sp) :
    PySem.W.WalkO q loose XP YP l.row.toRowW d [] (fun f vs => PySem.call f vs) := by
  refine Att.attach_call hn hdf ?_
  intro w s₀ s₁ mg mb fa o pm cd doc a vs ns G Y ho hd hcd hmg hobj hints hlen hg
  obtain ⟨K, fd, sp, KX, sy, hb, hsp, hF⟩ := F w mg fa _ Y G.T.g hmg
  exact law_callG KX G.T.g G.T.b G.T.builtins G.T.nolimit hg hobj hints (Nat.le_trans hlen hn2) hr sy hF hb fun H hS => hsp H a ns hlen hS
end Mi

end
section
set_option Elab.async false
set_option linter.all false
set_option maxRecDepth 100000
set_option maxHeartbeats 1000000
/-! Expressions: the text's own, checked against the small language. -/
namespace Mi
open PySem L2 PySem.Spec PyProof.Rows
/-- what is fixed through a law -/
structure Gm where
  P : Program
  w : World
  K : PySem.W.Frag
  mg : Str → Option Value
  base : Heap
  CA : List Addr
  Gn : List (Str × D)
  W : Nat
  T : List Fd
def Gm.G (Γ : Gm) : List D := Γ.Gn.map (·.2)
def Gm.cal (Γ : Gm) (n : Nat) : Cal := calF Γ.G Γ.W Γ.T n
def valueS : Str := "value"
/-- an error as it lies -/
def Gm.XR (Γ : Gm) : List Addr → Hp → Value → Option Addr → Nat → D → Prop := fun m H cls d c dv => ∃ C a v, Γ.CA[c]? = some C ∧ cls = .ref C ∧ d = some a ∧ H a = some (.xd [(valueS, v)]) ∧ VR Γ.K m H dv v
def Gm.sp (Γ : Gm) (n f : Nat) : Sp := fun vs H Q E => ∃ m S ds r, Rel Γ.K m S H ∧ VRs Γ.K m H ds vs ∧ Γ.cal n f ds S = some r ∧ Post Γ.K Γ.XR E (VR Γ.K) m H r Q
def Gm.Calls (Γ : Gm) (n : Nat) : Prop := ∀ (f : Nat) (F : Fd), Γ.T[f]? = some F → ∃ a fd ps, Γ.mg F.name = some (.ref a) ∧ PySem.W.keepIn Γ.K (.ref a) = true ∧ Binds Γ.K fd ps [] ∧ ps.length = F.np ∧ FnG Γ.P Γ.w Γ.K Γ.mg Γ.base n a fd ps (Γ.sp n f)
def freeNames : List Str := ["len", "int", "min", "max", "abs", "isinstance", "repr", "str", "all", "any", "sum", "list", "tuple", "set", "sorted", "range", "bool", "dict"]
structure Gm.Facts (Γ : Gm) : Prop where
  sys : SysOk Γ.base
  con : ∀ (k : Nat) (x : Str) (d : D), Γ.Gn[k]? = some (x, d) → flat d = true ∧ ∃ u, Γ.mg x = some u ∧ RelV (fV d) u
  free : ∀ x ∈ freeNames, Γ.mg x = none
/-- where an expression stands -/
structure Good (Γ : Gm) (n : Nat) (N : List Str) (sc : Scope) (X : Cx) : Prop where
  prog : X.prog = Γ.P
  w : X.w = Γ.w
  K : X.K = Γ.K
  mg : X.mg = Γ.mg
  base : X.base = Γ.base
  N : X.N = N
  calm : X.calm = true
  room : Room n X.A
  grd : X.A.guards = some []
  kd : ∀ x k, sc.names.lookup x = some k → X.env.scope.names.lookup x = some k ∨ (k = .free ∧ X.env.scope.names.lookup x = some .cell)
  fn : ∀ x, sc.names.lookup x = some .local ∨ sc.names.lookup x = some .cell → X.fn x = true ∨ X.env.scope.names.lookup x = some .local
def isVis : Option NameKind → Bool
  | some .local => true
  | some .cell => true
  | some .free => true
  | _ => false
def isGlb : Option NameKind → Bool
  | some .globalImplicit => true
  | _ => false
def isOwn : Option NameKind → Bool
  | some .local => true
  | some .cell => true
  | _ => false
def plainN (x : Str) : Bool := !(x == ("__debug__" : Str)) && !(x == ("__classdict__" : Str)) && !(x == ("__name__" : Str))
def isStar : Expr → Bool
  | .Starred _ _ => true
  | _ => false
def isSetE : Expr → Bool
  | .Set _ _ _ => true
  | _ => false
def isSlcE : Expr → Bool
  | .Slice _ _ _ _ => true
  | _ => false
section
variable {Γ : Gm} {n : Nat} {N : List Str} {sc : Scope} {X : Cx}
theorem plain_ne {x : Str} (h : plainN x = true) : (x == ("__debug__" : Str)) = false ∧ (x == ("__classdict__" : Str)) = false ∧ x ≠ "__name__" := by
  unfold plainN at h
  simp only [Bool.and_eq_true, Bool.not_eq_true', beq_eq_false_iff_ne] at h
  exact ⟨beq_eq_false_iff_ne.mpr h.1.1, beq_eq_false_iff_ne.mpr h.1.2, h.2⟩
theorem Good.vis (g : Good Γ n N sc X) {x : Str} (h : isVis (sc.names.lookup x) = true) : Vis X.env.scope x := by
  cases q : sc.names.lookup x with
  | none => rw [q] at h; cases h
  | some k =>
    rcases g.kd x k q with e | ⟨e1, e2⟩
    · rw [q] at h
      unfold Vis
      rw [e]
      cases k <;> first | exact .inl rfl | exact .inr (.inl rfl) | exact .inr (.inr rfl) | cases h
    · exact .inr (.inl e2)
theorem Good.gl (g : Good Γ n N sc X) {x : Str} (h : isGlb (sc.names.lookup x) = true) : Gl X x := by
  cases q : sc.names.lookup x with
  | none => rw [q] at h; cases h
  | some k =>
    rw [q] at h
    cases k <;> first | cases h | skip
    rcases g.kd x _ q with e | ⟨e1, _⟩
    · exact e
    · cases e1
theorem Good.loc (g : Good Γ n N sc X) {x : Str} (h : isOwn (sc.names.lookup x) = true) : L2.Loc X.env.scope x ∧ (X.fn x = true ∨ X.env.scope.names.lookup x = some .local) := by
  cases q : sc.names.lookup x with
  | none => rw [q] at h; cases h
  | some k =>
    rw [q] at h
    cases k <;> first | cases h | skip
    · refine ⟨?_, g.fn x (.inl q)⟩
      rcases g.kd x _ q with e | ⟨e1, _⟩
      · exact .inl e
      · cases e1
    · refine ⟨?_, g.fn x (.inr q)⟩
      rcases g.kd x _ q with e | ⟨e1, _⟩
      · exact .inr e
      · cases e1
theorem Good.units (g : Good Γ n N sc X) : X.A.units + 64 < cLine := g.room.units
/-- an expression's reading, whatever stands around -/
abbrev PEs (Γ : Gm) (n : Nat) (N : List Str) (sc : Scope) (E : XK) (pe : Expr) (t : TE) : Prop := ∀ X, Good Γ n N sc X → Passes (L2.CX Γ.P Γ.w) X E → PE X pe t
abbrev PTs' (Γ : Gm) (n : Nat) (N : List Str) (sc : Scope) (E : XK) (pe : Expr) (t : TT) : Prop := ∀ X, Good Γ n N sc X → Passes (L2.CX Γ.P Γ.w) X E → PT X pe t
/-- an expression is shown -/
def SndE (Γ : Gm) (n : Nat) (N : List Str) (sc : Scope) (pe : Expr) (f : Loc → Sto → Option (R D)) : Prop := ∀ E : XK, ∃ t, PEs Γ n N sc E pe t ∧ RefE Γ.K Γ.XR E t f
def SndT (Γ : Gm) (n : Nat) (N : List Str) (sc : Scope) (pe : Expr) (f : Loc → Sto → Option (R Bool)) : Prop := ∀ E : XK, ∃ t, PTs' Γ n N sc E pe t ∧ RefT Γ.K Γ.XR E t f
/-- expressions whose truth is their value's -/
def plainT : Expr → Bool
  | .UnaryOp .Not _ _ => false
  | .BoolOp _ _ _ => false
  | .IfExp _ _ _ _ => false
  | .Compare _ _ _ _ => false
  | _ => true
theorem isTrue_of_plain {pe : Expr} (h : plainT pe = true) (env : Env) (whole : Sem Value) : isTrue pe env whole = (do let v ← whole; standAt pe.pos; holding [v] (truthy v)) := by
  cases pe with
  | UnaryOp op x p => cases op <;> first | rfl | cases h
  | BoolOp op x p => cases h
  | IfExp a b c p => cases h
  | Compare a b c p => cases h
  | _ => rfl
theorem SndE.test {pe : Expr} {f : Loc → Sto → Option (R D)} (h : SndE Γ n N sc pe f) (hp : plainT pe = true) : SndT Γ n N sc pe (fun ρ S => tst (f ρ S)) := fun E => by
  obtain ⟨t, h1, h2⟩ := h E
  exact ⟨tB t, fun X g hx => pt_val (h1 X g hx) (isTrue_of_plain hp X.env), ref_test h2⟩
theorem snd_var {i : Nat} {x : Str} {pos : Pos} (hN : N[i]? = some x) (hv : isVis (sc.names.lookup x) = true) (hp : plainN x = true) : SndE Γ n N sc (.Name x pos) (fun ρ S => match ρ[i]? with | some (some d) => some (.ok d S) | _ => none) := fun E =>
  ⟨tVar i, fun X g _ => pe_var (by rw [g.N]; exact hN) (g.vis hv) (plain_ne hp).1 (plain_ne hp).2.1, ref_var⟩
theorem snd_int {i : Int} {j : Nat} {pos : Pos} : SndE Γ n N sc (.Constant (.int i) j pos) (fun _ S => some (.ok (.int i) S)) := fun E => ⟨_, fun X _ _ => pe_int, ref_c fun _ _ => rfl⟩
theorem snd_bl {b : Bool} {j : Nat} {pos : Pos} : SndE Γ n N sc (.Constant (.bool b) j pos) (fun _ S => some (.ok (.bl b) S)) := fun E => ⟨_, fun X _ _ => pe_bl, ref_c fun _ _ => rfl⟩
theorem snd_non {j : Nat} {pos : Pos} : SndE Γ n N sc (.Constant .none j pos) (fun _ S => some (.ok .non S)) := fun E => ⟨_, fun X _ _ => pe_non, ref_c fun _ _ => rfl⟩
theorem snd_str {x : Str} {j : Nat} {pos : Pos} : SndE Γ n N sc (.Constant (.str x) j pos) (fun _ S => some (.ok (.str x) S)) := fun E => ⟨_, fun X _ _ => pe_str, ref_c fun _ _ => rfl⟩
theorem snd_glb (F : Γ.Facts) {k : Nat} {x : Str} {d : D} {pos : Pos} (hk : Γ.Gn[k]? = some (x, d)) (hg : isGlb (sc.names.lookup x) = true) (hp : plainN x = true) : SndE Γ n N sc (.Name x pos) (fun _ S => match Γ.G[k]? with | some d => some (.ok d S) | none => none) := fun E => by
  obtain ⟨h1, u, h2, h3⟩ := F.con k x d hk
  refine ⟨tC (fV d), fun X g _ => pe_glob (g.gl hg) (by rw [g.mg]; exact h2) h3 (plain_ne hp).1, ?_⟩
  have e : Γ.G[k]? = some d := by unfold Gm.G; rw [List.getElem?_map, hk]; rfl
  rw [e]
  refine ref_c fun m H => ?_
  cases d <;> first | rfl | cases h1
theorem star_cons {e : Expr} {es : List Expr} {env : Env} (h : isStar e = false) : starEach (e :: es) env = (false, eval e env) :: starEach es env := by
  cases e <;> first | rfl | cases h
theorem star_any {es : List Expr} {env : Env} {pos : Pos} : (∀ e ∈ es, isStar e = false) → (backTo pos (starEach es env)).any (·.1) = false := by
  have h0 : ∀ l : List Expr, (∀ e ∈ l, isStar e = false) → ((starEach l env).any (·.1) = false) ∧ ∀ x ∈ starEach l env, x.1 = false := by
    intro l
    induction l with
    | nil => intro _; exact ⟨rfl, fun x hx => nomatch (show x ∈ ([] : List (Bool × Sem Value)) from hx)⟩
    | cons e l ih =>
      intro h
      obtain ⟨h1, h2⟩ := ih fun y hy => h y (List.mem_cons_of_mem _ hy)
      rw [star_cons (h e List.mem_cons_self)]
      refine ⟨by simp [h1], fun x hx => ?_⟩
      rcases List.mem_cons.mp hx with z | z
      · rw [z]
      · exact h2 x z
  intro h
  have h1 := (h0 es h).2
  cases es with
  | nil => rfl
  | cons e l =>
    have h2 : ∀ x ∈ backTo pos (starEach (e :: l) env), x.1 = false := by
      intro x hx
      rw [star_cons (h e List.mem_cons_self)] at h1 hx
      unfold backTo at hx
      obtain ⟨y, hy, e2⟩ := List.mem_map.mp hx
      rw [← e2]
      exact h1 y hy
    rw [List.any_eq_false]
    intro x hx
    rw [h2 x hx]
    exact Bool.false_ne_true
/-- arguments, from the left -/
def SndA (Γ : Gm) (n : Nat) (N : List Str) (sc : Scope) (ps : List Expr) (f : Loc → Sto → Option (R (List D))) : Prop := ∀ E : XK, ∃ t, (∀ X, Good Γ n N sc X → Passes (L2.CX Γ.P Γ.w) X E → PA X ps t) ∧ RefA Γ.K Γ.XR E t f
theorem snd_nil : SndA Γ n N sc [] (fun _ S => some (.ok [] S)) := fun E => ⟨tNil, fun X _ _ => pa_nil, ref_nil⟩
theorem snd_cons {pe : Expr} {ps : List Expr} {f : Loc → Sto → Option (R D)} {g : Loc → Sto → Option (R (List D))} (he : SndE Γ n N sc pe f) (hs : isStar pe = false) (hr : SndA Γ n N sc ps g) :
    SndA Γ n N sc (pe :: ps) (fun ρ S => bnd (f ρ S) fun d S1 => bnd (g ρ S1) fun ds S2 => some (.ok (d :: ds) S2)) := fun E => by
  obtain ⟨t, h1, h2⟩ := he E
  obtain ⟨u, h3, h4⟩ := hr E
  exact ⟨tCons t u, fun X g hx => pa_cons (h1 X g hx) (h3 X g hx) (star_cons hs), ref_cons h2 h4⟩
theorem snd_tup {ps : List Expr} {j : Nat} {pos : Pos} {g : Loc → Sto → Option (R (List D))} (h : SndA Γ n N sc ps g) : SndE Γ n N sc (.Tuple ps j pos) (fun ρ S => bnd (g ρ S) fun ds S1 => if ds.length ≤ sizeLine then some (.ok (.tup ds) S1) else none) := fun E => by
  obtain ⟨t, h1, h2⟩ := h E
  exact ⟨tTup t, fun X g hx => pe_tup (h1 X g hx), ref_tup h2⟩
theorem snd_lst {ps : List Expr} {pos : Pos} {g : Loc → Sto → Option (R (List D))} (h : SndA Γ n N sc ps g) : SndE Γ n N sc (.List ps pos) (fun ρ S => bnd (g ρ S) fun ds S1 => if ds.length ≤ sizeLine then some (.ok (.ref S1.length) (S1 ++ [.lst ds])) else none) := fun E => by
  obtain ⟨t, h1, h2⟩ := h E
  exact ⟨tLst t, fun X g hx => pe_lst (h1 X g hx), ref_lst h2⟩
theorem snd_op {o : Op2} {a b : Expr} {pos : Pos} {f g : Loc → Sto → Option (R D)} (ha : SndE Γ n N sc a f) (hb : SndE Γ n N sc b g) :
    SndE Γ n N sc (.BinOp a (oOp o) b pos) (fun ρ S => bnd (f ρ S) fun x S1 => bnd (g ρ S1) fun y S2 => lift2 (opD S2 o x y)) := fun E => by
  obtain ⟨t, h1, h2⟩ := ha E
  obtain ⟨u, h3, h4⟩ := hb E
  refine ⟨tOp (rOp Γ.K o) t u, fun X g hx => ?_, ref_op (op2_op o) h2 h4⟩
  have z := opr_op (X := X) o
  rw [g.K] at z
  exact pe_op z (h1 X g hx) (h3 X g hx)
theorem snd_neg {a : Expr} {pos : Pos} {f : Loc → Sto → Option (R D)} (ha : SndE Γ n N sc a f) : SndE Γ n N sc (.UnaryOp .USub a pos) (fun ρ S => bnd (f ρ S) fun x S1 => match x with | .int i => some (.ok (.int (-i)) S1) | _ => none) := fun E => by
  obtain ⟨t, h1, h2⟩ := ha E
  refine ⟨tUn (rU fun i => .int (-i)) t, fun X g hx => pe_un un_neg (h1 X g hx), ?_⟩
  intro m H S ρ σ rr Q rel vo hf p
  refine ref_bnd h2 rel vo hf p fun x S1 v H1 m1 e1 rel1 vo1 hv hf p => ?_
  cases x with
  | int i =>
    cases hf
    have hv : v = .int i := hv
    exact ⟨i, hv, post_here p rel1 rfl⟩
  | _ => cases hf
theorem nomark_of {c : CmpOp} {b : Expr} (h : isSetE b = false) : behindInMarks c b = false := by
  cases b <;> first | rfl | cases h
theorem snd_cmp (F : Γ.Facts) {c : Cm} {a b : Expr} {pos : Pos} {f g : Loc → Sto → Option (R D)} (ha : SndE Γ n N sc a f) (hb : SndE Γ n N sc b g) (hs : isSetE b = false) :
    SndE Γ n N sc (.Compare a [oCm c] [b] pos) (fun ρ S => bnd (f ρ S) fun x S1 => bnd (g ρ S1) fun y S2 => (cmpD S2 c x y).map fun r => .ok (.bl r) S2) ∧
    SndT Γ n N sc (.Compare a [oCm c] [b] pos) (fun ρ S => tst (bnd (f ρ S) fun x S1 => bnd (g ρ S1) fun y S2 => (cmpD S2 c x y).map fun r => .ok (.bl r) S2)) := by
  have hop : ∀ X, Good Γ n N sc X → OpR X (compareOp (oCm c)) (rCm Γ.K c) := fun X gd => by
    have z := opr_cm (X := X) (by rw [gd.base]; exact F.sys) gd.units c
    rw [gd.K] at z
    exact z
  refine ⟨fun E => ?_, fun E => ?_⟩
  · obtain ⟨t, h1, h2⟩ := ha E
    obtain ⟨u, h3, h4⟩ := hb E
    exact ⟨tOp (rCm Γ.K c) t u, fun X gd hx => pe_cmpR (hop X gd) (h1 X gd hx) (h3 X gd hx) (nomark_of hs), ref_cmp (cm2_cm c) h2 h4⟩
  · obtain ⟨t, h1, h2⟩ := ha E
    obtain ⟨u, h3, h4⟩ := hb E
    exact ⟨tTest (tOp (rCm Γ.K c) t u), fun X gd hx => pt_cmpR (hop X gd) (h1 X gd hx) (h3 X gd hx) (nomark_of hs), ref_test (ref_cmp (cm2_cm c) h2 h4)⟩
/-- a op b op c -/
theorem ref_chain {K : PySem.W.Frag} {XR : List Addr → Hp → Value → Option Addr → Nat → D → Prop} {E : XK} {c1 c2 : Cm} {ta tb tc : TE} {f g h : Loc → Sto → Option (R D)} (ha : RefE K XR E ta f) (hb : RefE K XR E tb g) (hc : RefE K XR E tc h) :
    RefE K XR E (tChain (rCm K c1) (rCm K c2) ta tb tc) (fun ρ S => bnd (f ρ S) fun x S1 => bnd (g ρ S1) fun y S2 => match cmpD S2 c1 x y with
      | some true => bnd (h ρ S2) fun z S3 => (cmpD S3 c2 y z).map fun r => .ok (.bl r) S3
      | some false => some (.ok (.bl false) S2)
      | none => none) := by
  intro m H S ρ σ rr Q rel vo hf p
  refine ref_bnd ha rel vo hf p fun x S1 v H1 m1 e1 rel1 vo1 hv hf p => ?_
  refine ref_bnd hb rel1 vo1 hf p fun y S2 u H2 m2 e2 rel2 vo2 hu hf p => ?_
  cases q : cmpD S2 c1 x y with
  | none => rw [q] at hf; cases hf
  | some b =>
    rw [q] at hf
    refine ⟨m2, S2, x, y, b, rel2, VR.mono e2 x v hv, hu, q, b, rfl, ?_⟩
    cases b with
    | false =>
      rw [if_neg Bool.false_ne_true]
      cases hf
      exact post_here p rel2 rfl
    | true =>
      rw [if_pos rfl]
      refine ref_bnd hc rel2 vo2 hf p fun z S3 w H3 m3 e3 rel3 vo3 hw hf p => ?_
      cases q2 : cmpD S3 c2 y z with
      | none => rw [q2] at hf; cases hf
      | some b2 =>
        rw [q2] at hf
        cases hf
        exact ⟨m3, S3, y, z, b2, rel3, VR.mono e3 y u hu, hw, q2, post_here p rel3 rfl⟩
theorem snd_chain (F : Γ.Facts) {c1 c2 : Cm} {a b c : Expr} {pos : Pos} {f g h : Loc → Sto → Option (R D)} (ha : SndE Γ n N sc a f) (hb : SndE Γ n N sc b g) (hc : SndE Γ n N sc c h) (hs : isSetE c = false) :
    SndE Γ n N sc (.Compare a [oCm c1, oCm c2] [b, c] pos) (fun ρ S => bnd (f ρ S) fun x S1 => bnd (g ρ S1) fun y S2 => match cmpD S2 c1 x y with
      | some true => bnd (h ρ S2) fun z S3 => (cmpD S3 c2 y z).map fun r => .ok (.bl r) S3
      | some false => some (.ok (.bl false) S2)
      | none => none) ∧
    SndT Γ n N sc (.Compare a [oCm c1, oCm c2] [b, c] pos) (fun ρ S => tst (bnd (f ρ S) fun x S1 => bnd (g ρ S1) fun y S2 => match cmpD S2 c1 x y with
      | some true => bnd (h ρ S2) fun z S3 => (cmpD S3 c2 y z).map fun r => .ok (.bl r) S3
      | some false => some (.ok (.bl false) S2)
      | none => none)) := by
  have hop : ∀ (c : Cm) X, Good Γ n N sc X → OpR X (compareOp (oCm c)) (rCm Γ.K c) := fun c X gd => by
    have z := opr_cm (X := X) (by rw [gd.base]; exact F.sys) gd.units c
    rw [gd.K] at z
    exact z
  have hm : lastMarks [oCm c1, oCm c2] [b, c] = false := nomark_of hs
  refine ⟨fun E => ?_, fun E => ?_⟩
  · obtain ⟨t, h1, h2⟩ := ha E
    obtain ⟨u, h3, h4⟩ := hb E
    obtain ⟨v, h5, h6⟩ := hc E
    exact ⟨tChain (rCm Γ.K c1) (rCm Γ.K c2) t u v, fun X gd hx => pe_chain (hop c1 X gd) (hop c2 X gd) (h1 X gd hx) (h3 X gd hx) (h5 X gd hx) hm, ref_chain h2 h4 h6⟩
  · obtain ⟨t, h1, h2⟩ := ha E
    obtain ⟨u, h3, h4⟩ := hb E
    obtain ⟨v, h5, h6⟩ := hc E
    exact ⟨tTest (tChain (rCm Γ.K c1) (rCm Γ.K c2) t u v), fun X gd hx => pt_chain (hop c1 X gd) (hop c2 X gd) (h1 X gd hx) (h3 X gd hx) (h5 X gd hx) hm, ref_test (ref_chain h2 h4 h6)⟩
theorem snd_not {a : Expr} {pos : Pos} {f : Loc → Sto → Option (R D)} (ha : SndE Γ n N sc a f) (hb : SndT Γ n N sc a (fun ρ S => tst (f ρ S))) :
    SndE Γ n N sc (.UnaryOp .Not a pos) (fun ρ S => bnd (tst (f ρ S)) fun b S1 => some (.ok (.bl (!b)) S1)) ∧ SndT Γ n N sc (.UnaryOp .Not a pos) (fun ρ S => tst (bnd (tst (f ρ S)) fun b S1 => some (.ok (.bl (!b)) S1))) := by
  refine ⟨fun E => ?_, fun E => ?_⟩
  · obtain ⟨t, h1, h2⟩ := ha E
    exact ⟨tNotV t, fun X gd hx => pe_not (h1 X gd hx), ref_notV h2⟩
  · obtain ⟨t, h1, h2⟩ := hb E
    refine ⟨tNot t, fun X gd hx => pt_not (h1 X gd hx), ?_⟩
    have z := ref_not h2
    intro m H S ρ σ rr Q rel vo hf p
    refine z m H S ρ σ rr Q rel vo ?_ p
    dsimp only at hf ⊢
    cases q : tst (f ρ S) with
    | none => rw [q] at hf; cases hf
    | some r => rw [q] at hf; cases r <;> exact hf
theorem snd_ite {c a b : Expr} {pos : Pos} {fc f g : Loc → Sto → Option (R D)} (hc : SndT Γ n N sc c (fun ρ S => tst (fc ρ S))) (ha : SndE Γ n N sc a f) (hb : SndE Γ n N sc b g) :
    SndE Γ n N sc (.IfExp c a b pos) (fun ρ S => bnd (tst (fc ρ S)) fun t S1 => if t = true then f ρ S1 else g ρ S1) := fun E => by
  obtain ⟨t, h1, h2⟩ := hc E
  obtain ⟨u, h3, h4⟩ := ha E
  obtain ⟨v, h5, h6⟩ := hb E
  exact ⟨tIf t u v, fun X gd hx => pe_ifExp (h1 X gd hx) (h3 X gd hx) (h5 X gd hx), ref_ite h2 h4 h6⟩
theorem ref_ix {K : PySem.W.Frag} {XR : List Addr → Hp → Value → Option Addr → Nat → D → Prop} {E : XK} {ta tb : TE} {f g : Loc → Sto → Option (R D)} (ha : RefE K XR E ta f) (hb : RefE K XR E tb g) :
    RefE K XR E (tOp (rIxM K) ta tb) (fun ρ S => bnd (f ρ S) fun x S1 => bnd (g ρ S1) fun y S2 => (ixD S2 x y).map fun r => .ok r S2) := by
  intro m H S ρ σ rr Q rel vo hf p
  refine ref_bnd ha rel vo hf p fun x S1 v H1 m1 e1 rel1 vo1 hv hf p => ?_
  refine ref_bnd hb rel1 vo1 hf p fun y S2 u H2 m2 e2 rel2 vo2 hu hf p => ?_
  cases q : ixD S2 x y with
  | none => rw [q] at hf; cases hf
  | some d =>
    rw [q] at hf
    cases hf
    exact ⟨m2, S2, x, y, d, rel2, VR.mono e2 x v hv, hu, q, fun w hw => post_here p rel2 hw⟩
theorem plainIx_of {b : Expr} (h : isSlcE b = false) : PlainIx b := fun o i => by
  cases b <;> first | rfl | cases h
theorem snd_ix {a b : Expr} {pos : Pos} {f g : Loc → Sto → Option (R D)} (ha : SndE Γ n N sc a f) (hb : SndE Γ n N sc b g) (hs : isSlcE b = false) :
    SndE Γ n N sc (.Subscript a b pos) (fun ρ S => bnd (f ρ S) fun x S1 => bnd (g ρ S1) fun y S2 => (ixD S2 x y).map fun r => .ok r S2) := fun E => by
  obtain ⟨t, h1, h2⟩ := ha E
  obtain ⟨u, h3, h4⟩ := hb E
  refine ⟨tOp (rIxM Γ.K) t u, fun X gd hx => ?_, ref_ix h2 h4⟩
  have z := ix_mi (X := X)
  rw [gd.K] at z
  exact pe_ix z (h1 X gd hx) (h3 X gd hx) (plainIx_of hs)
/-- a slice's parts -/
def SndO (Γ : Gm) (n : Nat) (N : List Str) (sc : Scope) (pe : Option Expr) (f : Loc → Sto → Option (R (Option Int))) : Prop := ∀ E : XK, ∃ t, (∀ X, Good Γ n N sc X → Passes (L2.CX Γ.P Γ.w) X E → PO X pe t) ∧ RefO Γ.K Γ.XR E t f
theorem snd_onone : SndO Γ n N sc none (fun _ S => some (.ok none S)) := fun E => ⟨tNoPart, fun X _ _ => po_none, fun m H S ρ σ rr Q rel vo hf p => by
  cases hf
  exact post_here p rel rfl⟩
theorem snd_osome {a : Expr} {f : Loc → Sto → Option (R D)} (ha : SndE Γ n N sc a f) : SndO Γ n N sc (some a) (fun ρ S => bnd (f ρ S) fun d S1 => match d with | .int i => some (.ok (some i) S1) | _ => none) := fun E => by
  obtain ⟨t, h1, h2⟩ := ha E
  refine ⟨tPart t, fun X gd hx => po_some (h1 X gd hx), ?_⟩
  intro m H S ρ σ rr Q rel vo hf p
  refine ref_bnd h2 rel vo hf p fun x S1 v H1 m1 e1 rel1 vo1 hv hf p => ?_
  cases x with
  | int i =>
    cases hf
    have hv : v = .int i := hv
    exact ⟨i, hv, post_here p rel1 rfl⟩
  | _ => cases hf
theorem snd_slc {a : Expr} {lo hi : Option Expr} {pos p2 : Pos} {f : Loc → Sto → Option (R D)} {gl gh : Loc → Sto → Option (R (Option Int))} (ha : SndE Γ n N sc a f) (hl : SndO Γ n N sc lo gl) (hh : SndO Γ n N sc hi gh) :
    SndE Γ n N sc (.Subscript a (.Slice lo hi none p2) pos) (fun ρ S => bnd (f ρ S) fun x S1 => bnd (gl ρ S1) fun l S2 => bnd (gh ρ S2) fun h S3 => lift2 (slcD S3 x l h)) := fun E => by
  obtain ⟨t, h1, h2⟩ := ha E
  obtain ⟨u, h3, h4⟩ := hl E
  obtain ⟨v, h5, h6⟩ := hh E
  refine ⟨tSl (rSlM Γ.K) t u v, fun X gd hx => ?_, ?_⟩
  · have z := sl_mi (X := X)
    rw [gd.K] at z
    exact pe_slice z (h1 X gd hx) (h3 X gd hx) (h5 X gd hx)
  · intro m H S ρ σ rr Q rel vo hf p
    refine ref_bnd h2 rel vo hf p fun x S1 v H1 m1 e1 rel1 vo1 hv hf p => ?_
    refine ref_bnd h4 rel1 vo1 hf p fun l S2 l' H2 m2 e2 rel2 vo2 hl hf p => ?_
    refine ref_bnd h6 rel2 vo2 hf p fun h S3 h' H3 m3 e3 rel3 vo3 hh hf p => ?_
    have hl : l' = l := hl
    have hh : h' = h := hh
    subst hl hh
    unfold lift2 at hf
    cases q : slcD S3 x l' h' with
    | none => rw [q] at hf; cases hf
    | some w =>
      rw [q] at hf
      cases hf
      exact ⟨m3, S3, x, w.1, w.2, rel3, VR.mono (e2.trans e3) x v hv, q, p⟩
end
end Mi

end
section
set_option Elab.async false
set_option linter.all false
set_option maxRecDepth 100000
set_option maxHeartbeats 1000000
/-! and, or, calls. -/
namespace Mi
open PySem L2 PySem.Spec PyProof.Rows
section
variable {Γ : Gm} {n : Nat} {N : List Str} {sc : Scope} {X : Cx}
def isIfE : Expr → Bool
  | .IfExp _ _ _ _ => true
  | _ => false
/-- expressions in a row, each shown -/
inductive Sn (Γ : Gm) (n : Nat) (N : List Str) (sc : Scope) (ev : E → Loc → Sto → Option (R D)) : List E → List Expr → Prop
  | nil : Sn Γ n N sc ev [] []
  | cons {e : E} {es : List E} {pe : Expr} {ps : List Expr} : SndE Γ n N sc pe (ev e) → (isIfE pe = false → SndT Γ n N sc pe (fun ρ S => tst (ev e ρ S))) → Sn Γ n N sc ev es ps → Sn Γ n N sc ev (e :: es) (pe :: ps)
def SndW (Γ : Gm) (n : Nat) (N : List Str) (sc : Scope) (pe : Expr) (f : Loc → Sto → Option (R Bool)) : Prop := ∀ E : XK, ∃ t, (∀ X, Good Γ n N sc X → Passes (L2.CX Γ.P Γ.w) X E → PW X pe t) ∧ RefT Γ.K Γ.XR E t f
theorem ref_congr {α β : Type} {K : PySem.W.Frag} {XR : List Addr → Hp → Value → Option Addr → Nat → D → Prop} {E : XK} {V1 : List Addr → Hp → α → β → Prop} {t : L2.St → Hp → (β → Hp → Prop) → Prop} {f g : Loc → Sto → Option (R α)} (h : Ref K XR E V1 t f) (e : ∀ ρ S, g ρ S = f ρ S) : Ref K XR E V1 t g := by
  have : g = f := by funext ρ S; exact e ρ S
  rw [this]; exact h
theorem tst_bl (x : Option (R Bool)) : tst (bnd x fun b S1 => some (.ok (.bl b) S1)) = x := by
  cases x with
  | none => rfl
  | some r => cases r <;> rfl
theorem tst_if {x : Option (R Bool)} {c : Sto → Option (R D)} {d : Bool} : tst (bnd x fun b S1 => if b = true then c S1 else some (.ok (.bl d) S1)) = bnd x fun b S1 => if b = true then tst (c S1) else some (.ok d S1) := by
  cases x with
  | none => rfl
  | some r =>
    cases r with
    | ok b S => cases b <;> rfl
    | ex c v S => rfl
theorem tst_if' {x : Option (R Bool)} {c : Sto → Option (R D)} {d : Bool} : tst (bnd x fun b S1 => if b = true then some (.ok (.bl d) S1) else c S1) = bnd x fun b S1 => if b = true then some (.ok d S1) else tst (c S1) := by
  cases x with
  | none => rfl
  | some r =>
    cases r with
    | ok b S => cases b <;> rfl
    | ex c v S => rfl
theorem snd_and {G : List D} {cal : Cal} {pos : Pos} : ∀ {es : List E} {ps : List Expr}, Sn Γ n N sc (evE G cal) es ps → es ≠ [] → (∀ e ∈ ps, isIfE e = false) → SndE Γ n N sc (.BoolOp .And ps pos) (fun ρ S => evAnd G cal es ρ S) ∧ SndW Γ n N sc (.BoolOp .And ps pos) (fun ρ S => tst (evAnd G cal es ρ S))
  | _, _, .nil, h, _ => absurd rfl h
  | _, _, .cons (e := e) (pe := pe) h1 h2 .nil, _, hI => by
    refine ⟨fun E => ?_, fun E => ?_⟩
    · obtain ⟨t, a1, a2⟩ := h1 E
      exact ⟨t, fun X gd hx => pe_one (a1 X gd hx), ref_congr (ref_lastV a2) fun ρ S => by simp only [evAnd]⟩
    · obtain ⟨t, a1, a2⟩ := h2 (hI _ List.mem_cons_self) E
      refine ⟨t, fun X gd hx => pw_and1 (a1 X gd hx), ref_congr a2 fun ρ S => ?_⟩
      simp only [evAnd]
      exact tst_bl _
  | _, _, .cons (e := e) (pe := pe) h1 h2 (.cons (e := e') (es := es) (pe := pe') (ps := ps) h3 h4 h5), _, hI => by
    obtain ⟨q1, q2⟩ := snd_and (.cons h3 h4 h5) (by simp) (fun e he => hI e (List.mem_cons_of_mem _ he))
    refine ⟨fun E => ?_, fun E => ?_⟩
    · obtain ⟨t, a1, a2⟩ := h1 E
      obtain ⟨u, b1, b2⟩ := q1 E
      refine ⟨tAndV t u, fun X gd hx => pe_and (a1 X gd hx) (b1 X gd hx), ref_congr (ref_andV a2 b2) fun ρ S => ?_⟩
      rw [evAnd]
    · obtain ⟨t, a1, a2⟩ := h2 (hI _ List.mem_cons_self) E
      obtain ⟨u, b1, b2⟩ := q2 E
      refine ⟨tAnd t u, fun X gd hx => pw_and (a1 X gd hx) (b1 X gd hx), ref_congr (ref_and a2 b2) fun ρ S => ?_⟩
      rw [evAnd]
      exact tst_if
theorem snd_or {G : List D} {cal : Cal} {pos : Pos} : ∀ {es : List E} {ps : List Expr}, Sn Γ n N sc (evE G cal) es ps → es ≠ [] → (∀ e ∈ ps, isIfE e = false) → SndE Γ n N sc (.BoolOp .Or ps pos) (fun ρ S => evOr G cal es ρ S) ∧ SndW Γ n N sc (.BoolOp .Or ps pos) (fun ρ S => tst (evOr G cal es ρ S))
  | _, _, .nil, h, _ => absurd rfl h
  | _, _, .cons (e := e) (pe := pe) h1 h2 .nil, _, hI => by
    refine ⟨fun E => ?_, fun E => ?_⟩
    · obtain ⟨t, a1, a2⟩ := h1 E
      exact ⟨t, fun X gd hx => pe_one (a1 X gd hx), ref_congr (ref_lastV a2) fun ρ S => by simp only [evOr]⟩
    · obtain ⟨t, a1, a2⟩ := h2 (hI _ List.mem_cons_self) E
      refine ⟨t, fun X gd hx => pw_or1 (a1 X gd hx), ref_congr a2 fun ρ S => ?_⟩
      simp only [evOr]
      exact tst_bl _
  | _, _, .cons (e := e) (pe := pe) h1 h2 (.cons (e := e') (es := es) (pe := pe') (ps := ps) h3 h4 h5), _, hI => by
    obtain ⟨q1, q2⟩ := snd_or (.cons h3 h4 h5) (by simp) (fun e he => hI e (List.mem_cons_of_mem _ he))
    refine ⟨fun E => ?_, fun E => ?_⟩
    · obtain ⟨t, a1, a2⟩ := h1 E
      obtain ⟨u, b1, b2⟩ := q1 E
      refine ⟨tOrV t u, fun X gd hx => pe_or (a1 X gd hx) (b1 X gd hx), ref_congr (ref_orV a2 b2) fun ρ S => ?_⟩
      rw [evOr]
    · obtain ⟨t, a1, a2⟩ := h2 (hI _ List.mem_cons_self) E
      obtain ⟨u, b1, b2⟩ := q2 E
      refine ⟨tOr t u, fun X gd hx => pw_or (a1 X gd hx) (b1 X gd hx), ref_congr (ref_or a2 b2) fun ρ S => ?_⟩
      rw [evOr]
      exact tst_if'
theorem SndW.test {pe : Expr} {f : Loc → Sto → Option (R Bool)} (h : SndW Γ n N sc pe f) : SndT Γ n N sc pe f := fun E => by
  obtain ⟨t, h1, h2⟩ := h E
  exact ⟨t, fun X gd hx => (h1 X gd hx).pt, h2⟩
/-- arguments as a list -/
theorem Sn.args {G : List D} {cal : Cal} : ∀ {es : List E} {ps : List Expr}, Sn Γ n N sc (evE G cal) es ps → (∀ e ∈ ps, isStar e = false) → SndA Γ n N sc ps (fun ρ S => evEs G cal es ρ S)
  | _, _, .nil, _ => fun E => by
    obtain ⟨t, h1, h2⟩ := snd_nil (Γ := Γ) (n := n) (N := N) (sc := sc) E
    exact ⟨t, h1, ref_congr h2 fun ρ S => by rw [evEs]⟩
  | _, _, .cons (e := e) (pe := pe) h1 h2 h3, hs => fun E => by
    obtain ⟨t, a1, a2⟩ := snd_cons h1 (hs _ List.mem_cons_self) (Sn.args h3 fun e he => hs e (List.mem_cons_of_mem _ he)) E
    exact ⟨t, a1, ref_congr a2 fun ρ S => by rw [evEs]⟩
/-! ### calls -/
theorem snd_call (C : Γ.Calls n) {f : Nat} {F : Fd} {x : Str} {ps : List Expr} {p pos : Pos} {g : Loc → Sto → Option (R (List D))} (hF : Γ.T[f]? = some F) (hn : F.name = x) (hg : isGlb (sc.names.lookup x) = true) (hp : plainN x = true)
    (h0 : ps ≠ []) (hs : ∀ e ∈ ps, isStar e = false) (ha : SndA Γ n N sc ps g) : SndE Γ n N sc (.Call (.Name x p) ps [] pos) (fun ρ S => bnd (g ρ S) fun ds S1 => Γ.cal n f ds S1) := fun E => by
  obtain ⟨t, h1, h2⟩ := ha E
  obtain ⟨a, fd, pss, c1, c2, c3, c4, c5⟩ := C f F hF
  refine ⟨tCall (Γ.sp n f) [] E t, fun X gd hx => ?_, ?_⟩
  · cases ps with
    | nil => exact absurd rfl h0
    | cons e es =>
      have hh : PE X (.Call (.Name x p) (e :: es) [] pos) (tCall (Γ.sp n f) [] E t) := by
        refine pe_callM (k := n) (f := a) (fd := fd) (ps := pss) ?_ gd.grd gd.room (gd.gl hg) ?_ ?_ ?_ ?_ (h1 X gd hx) (plain_ne hp).1 (star_cons (hs e List.mem_cons_self)) (star_any fun y hy => hs y (List.mem_cons_of_mem _ hy))
        · rw [gd.prog, gd.w, gd.K, gd.mg, gd.base]; exact c5
        · rw [gd.mg, ← hn]; exact c1
        · rw [gd.K]; exact c2
        · rw [gd.K]; exact c3
        · rw [gd.prog, gd.w]; exact hx
      exact hh
  · intro m H S ρ σ rr Q rel vo hf p
    refine ref_bnd h2 rel vo hf p fun ds S1 vs H1 m1 e1 rel1 vo1 hv hf p => ?_
    exact ⟨m1, S1, ds, rr, rel1, by rw [List.append_nil]; exact hv, hf, p⟩
/-! ### built-in functions -/
def biV : Bi → Option (Str × Value)
  | .len => some ("len", .builtin "len")
  | .int => some ("int", .type "int")
  | .abs => some ("abs", .builtin "abs")
  | .min2 => some ("min", .builtin "min")
  | .max2 => some ("max", .builtin "max")
  | .repr => some ("repr", .builtin "repr")
  | .str => some ("str", .type "str")
  | .all => some ("all", .builtin "all")
  | .any => some ("any", .builtin "any")
  | .sum => some ("sum", .builtin "sum")
  | .lst => some ("list", .type "list")
  | .tuple => some ("tuple", .type "tuple")
  | _ => none
theorem biV_boot {b : Bi} {x : Str} {v : Value} (h : biV b = some (x, v)) : bootBuiltins x = some v := by
  cases b <;> first | cases h | skip
  all_goals (first | exact boot_len | decide +kernel)
theorem biV_free {b : Bi} {x : Str} {v : Value} (h : biV b = some (x, v)) : x ∈ freeNames := by
  cases b <;> first | cases h | skip
  all_goals decide +kernel
theorem biV_call (F : Γ.Facts) {b : Bi} {x : Str} {v : Value} (h : biV b = some (x, v)) (gd : Good Γ n N sc X) : CallR X v (rBi X.K b) := by
  have hs : SysOk X.base := by rw [gd.base]; exact F.sys
  cases b <;> first | cases h | skip
  · exact bi_len
  · exact bi_int
  · exact bi_abs
  · exact bi_min gd.calm
  · exact bi_max gd.calm
  · exact bi_repr hs gd.grd gd.units
  · exact bi_str
  · exact bi_all gd.calm
  · exact bi_any gd.calm
  · exact bi_sum gd.calm
  · exact bi_lst
  · exact bi_tuple
theorem ref_bi {K : PySem.W.Frag} {XR : List Addr → Hp → Value → Option Addr → Nat → D → Prop} {E : XK} {t : TA} {b : Bi} {g : Loc → Sto → Option (R (List D))} (ha : RefA K XR E t g) : RefE K XR E (tCB (rBi K b) t) (fun ρ S => bnd (g ρ S) fun ds S1 => lift2 (biD S1 b ds)) := by
  intro m H S ρ σ rr Q rel vo hf p
  refine ref_bnd ha rel vo hf p fun ds S1 vs H1 m1 e1 rel1 vo1 hv hf p => ?_
  unfold lift2 at hf
  cases q : biD S1 b ds with
  | none => rw [q] at hf; cases hf
  | some w =>
    rw [q] at hf
    cases hf
    exact ⟨m1, S1, ds, w.1, w.2, rel1, hv, q, p⟩
theorem snd_bi (F : Γ.Facts) {b : Bi} {x : Str} {v : Value} {ps : List Expr} {p pos : Pos} {g : Loc → Sto → Option (R (List D))} (hb : biV b = some (x, v)) (hg : isGlb (sc.names.lookup x) = true)
    (h0 : ps ≠ []) (hs : ∀ e ∈ ps, isStar e = false) (ha : SndA Γ n N sc ps g) : SndE Γ n N sc (.Call (.Name x p) ps [] pos) (fun ρ S => bnd (g ρ S) fun ds S1 => lift2 (biD S1 b ds)) := fun E => by
  obtain ⟨t, h1, h2⟩ := ha E
  refine ⟨tCB (rBi Γ.K b) t, fun X gd hx => ?_, ref_bi h2⟩
  have hc := biV_call F hb gd
  rw [gd.K] at hc
  have hm : X.mg x = none := by rw [gd.mg]; exact F.free x (biV_free hb)
  have hbt := biV_boot hb
  have hn : x ≠ "__name__" := by cases b <;> first | cases hb | skip
                                 all_goals decide +kernel
  have hd : (x == ("__debug__" : Str)) = false := by cases b <;> first | cases hb | skip
                                                     all_goals decide +kernel
  cases ps with
  | nil => exact absurd rfl h0
  | cons e es =>
    have s1 := star_cons (es := es) (env := X.env) (hs e List.mem_cons_self)
    have s2 := star_any (es := es) (env := X.env) (pos := pos) fun y hy => hs y (List.mem_cons_of_mem _ hy)
    cases v with
    | builtin id => exact pe_callB hc (gd.gl hg) hm hbt (h1 X gd hx) hn hd s1 s2
    | type T => exact pe_callTy hc (gd.gl hg) hm hbt (h1 X gd hx) hn hd s1 s2
    | _ => exfalso; cases b <;> cases hb
end
end Mi

end
section
set_option Elab.async false
set_option linter.all false
set_option maxRecDepth 100000
set_option maxHeartbeats 1000000
/-! isinstance, ranges as lists, methods of lists, dicts. -/
namespace Mi
open PySem L2 PySem.Spec PyProof.Rows
section
variable {Γ : Gm} {n : Nat} {N : List Str} {sc : Scope} {X : Cx}
/-! ### isinstance -/
theorem tyx_of {K : PySem.W.Frag} {m : List Addr} {S : Sto} {H : Hp} {d : D} {v : V} {a : String} (rel : Rel K m S H) (h : VR K m H d v) (e : tyD S d = some a) : TyX K H v (.type a) := by
  cases d with
  | non => cases e; have h : v = .non := h; subst h; exact .base .non
  | bl b => cases e; have h : v = .bl b := h; subst h; exact .base (.bl b)
  | int i => cases e; have h : v = .int i := h; subst h; exact .base (.int i)
  | str x => cases e; have h : v = .str x := h; subst h; exact .base (.str x)
  | tup ds =>
    cases e
    obtain ⟨p, xs, e1, h1, h2⟩ := h
    subst e1
    rcases h1 with (h1 | ⟨o, h1⟩) | ⟨o, its, n, h1, h3, _⟩
    · exact .base (.tup h1)
    · exact .fTuple h1
    · exact .kTuple h1 h3
  | frz ds =>
    cases e
    obtain ⟨p, xs, e1, h1, h2⟩ := h
    subst e1
    rcases h1 with ⟨o, h1⟩ | (h1 | ⟨o, h1⟩) | ⟨o, its, n, h1, h3, _⟩
    · exact .base (.frz h1)
    · cases h1
    · cases h1
    · exact .kList h1 h3
  | ref r =>
    obtain ⟨p, e1, h1⟩ := h
    subst e1
    have e : (match S[r]? with | some (.lst _) => some "list" | some (.dct _) => some "dict" | none => none) = some a := e
    split at e
    · rename_i xs q
      cases e
      obtain ⟨vs, g1, _⟩ := rel.lst h1 q
      exact .base (.lst g1)
    · rename_i kvs q
      cases e
      obtain ⟨vs, g1, _⟩ := rel.obj r p _ h1 q
      exact .base (.dK g1)
    · cases e
theorem snd_isi (F : Γ.Facts) {t : String} {pe : Expr} {tn : Str} {p p2 pos : Pos} {f : Loc → Sto → Option (R D)} (ha : SndE Γ n N sc pe f) (hs : isStar pe = false) (hb : bootBuiltins tn = some (.type t)) (hf : tn ∈ freeNames) (hp : plainN tn = true)
    (hg : isGlb (sc.names.lookup ("isinstance" : Str)) = true) (hg2 : isGlb (sc.names.lookup tn) = true) :
    SndE Γ n N sc (.Call (.Name "isinstance" p) [pe, .Name tn p2] [] pos) (fun ρ S => bnd (bnd (f ρ S) fun d S1 => some (.ok [d] S1)) fun ds S1 => lift2 (biD S1 (.isi t) ds)) := fun E => by
  obtain ⟨u, h1, h2⟩ := ha E
  refine ⟨tCB (rIsi Γ.K) (tCons u (tCons (tC (.ty t)) tNil)), fun X gd hx => ?_, ?_⟩
  · have hm : X.mg "isinstance" = none := by rw [gd.mg]; exact F.free _ (by decide +kernel)
    have hm2 : X.mg tn = none := by rw [gd.mg]; exact F.free _ hf
    have hc := call_isi (X := X)
    rw [gd.K] at hc
    exact pe_callB hc (gd.gl hg) hm (by decide +kernel) (pa_cons (h1 X gd hx) (pa_cons (pe_bltn (v := .ty t) (gd.gl hg2) hm2 hb rfl (plain_ne hp).2.2 (plain_ne hp).1) pa_nil) (star_cons hs)) (by decide +kernel) (by decide +kernel) (star_cons hs)
      (star_any fun y hy => by rcases List.mem_singleton.mp hy with rfl; rfl)
  · intro m H S ρ σ rr Q rel vo hf p
    dsimp only at hf
    cases q : f ρ S with
    | none => rw [q] at hf; cases hf
    | some r1 =>
      refine h2 m H S ρ σ r1 _ rel vo q ?_
      rw [q] at hf
      cases r1 with
      | ex c dv S1 => cases hf; exact p
      | ok d S1 =>
        intro v H1 m1 e1 rel1 hv
        have hf : ((isiD S1 t d).map fun b => (D.bl b, S1)).map (fun q => R.ok q.1 q.2) = some rr := hf
        obtain ⟨w, g1, g2⟩ := map_some hf
        obtain ⟨b, g3, g4⟩ := map_some g1
        subst g4 g2
        obtain ⟨a, g5, g6⟩ := bind_some (show (tyD S1 d).bind (fun a => kitB a t) = some b from g3)
        exact ⟨v, .ty t, .type a, .type t, b, rfl, .ty t, tyx_of rel1 hv g5, kit_ty g6, post_ok p e1 rel1 rfl⟩
/-! ### list(range(..)) -/
theorem rg_rel {K : PySem.W.Frag} {m : List Addr} {H : Hp} (a b : Int) : VRs K m H (rgD a b) (rgV a b) := by
  have h : ∀ l : List Nat, VRs K m H (l.map fun (i : Nat) => D.int (a + (i : Int))) (l.map fun (i : Nat) => V.int (a + (i : Int))) := by
    intro l
    induction l with
    | nil => exact VRs.nil
    | cons x l ih => exact VRs.cons rfl ih
  exact h _
theorem snd_rng (F : Γ.Facts) {a b : Expr} {p p2 pos pos2 : Pos} {f g : Loc → Sto → Option (R D)} (ha : SndE Γ n N sc a f) (hb : SndE Γ n N sc b g) (s1 : isStar a = false) (s2 : isStar b = false) (hg : isGlb (sc.names.lookup ("list" : Str)) = true) (hg2 : isGlb (sc.names.lookup ("range" : Str)) = true) :
    SndE Γ n N sc (.Call (.Name "list" p) [.Call (.Name "range" p2) [a, b] [] pos2] [] pos) (fun ρ S => bnd (bnd (f ρ S) fun x S1 => bnd (g ρ S1) fun y S2 => some (.ok [x, y] S2)) fun ds S1 => lift2 (biD S1 .rng ds)) := fun E => by
  obtain ⟨t, h1, h2⟩ := ha E
  obtain ⟨u, h3, h4⟩ := hb E
  refine ⟨tLstRg (tRg2 t u), fun X gd hx => ?_, ?_⟩
  · have hm : X.mg "list" = none := by rw [gd.mg]; exact F.free _ (by decide +kernel)
    have hm2 : X.mg "range" = none := by rw [gd.mg]; exact F.free _ (by decide +kernel)
    refine pe_listRg gd.calm (gd.gl hg) hm (prg_2 (gd.gl hg2) hm2 (h1 X gd hx) (h3 X gd hx) ?_ ?_ ?_) rfl
    · rw [star_cons s1, star_cons s2]
    · rw [star_cons s2]
    · rw [star_cons s2]; rfl
  · intro m H S ρ σ rr Q rel vo hf p
    dsimp only at hf
    cases q : f ρ S with
    | none => rw [q] at hf; cases hf
    | some r1 =>
      rw [q] at hf
      refine h2 m H S ρ σ r1 _ rel vo q ?_
      cases r1 with
      | ex c dv S1 => cases hf; exact p
      | ok x S1 =>
        intro v H1 m1 e1 rel1 hv
        have vo1 := vo.mono e1
        rw [bnd_ok] at hf
        cases q2 : g ρ S1 with
        | none => rw [q2] at hf; cases hf
        | some r2 =>
          rw [q2] at hf
          refine h4 m1 H1 S1 ρ σ r2 _ rel1 vo1 q2 ?_
          cases r2 with
          | ex c dv S2 => cases hf; exact PostX.mono e1 p
          | ok y S2 =>
            intro w H2 m2 e2 rel2 hw
            rw [bnd_ok, bnd_ok] at hf
            obtain ⟨z, g1, g2⟩ := map_some (show (biD S2 .rng [x, y]).map (fun q => R.ok q.1 q.2) = some rr from hf)
            subst g2
            cases x with
            | int i =>
              cases y with
              | int j =>
                obtain ⟨g3, g4⟩ := if_some (show (if rgOk i j then some (D.ref S2.length, S2 ++ [.lst (rgD i j)]) else none) = some z from g1)
                subst g4
                have hv : v = .int i := hv
                have hw : w = .int j := hw
                subst hv hw
                refine ⟨i, j, rfl, rfl, g3, fun l hl => ?_⟩
                obtain ⟨a1, a2, a3⟩ := new_lst rel2 hl (rg_rel i j)
                exact post_ok p ((e1.trans e2).trans a1) a2 a3
              | _ => cases g1
            | _ => cases g1
theorem snd_rng1 (F : Γ.Facts) {b : Expr} {p p2 pos pos2 : Pos} {g : Loc → Sto → Option (R D)} (hb : SndE Γ n N sc b g) (s2 : isStar b = false) (hg : isGlb (sc.names.lookup ("list" : Str)) = true) (hg2 : isGlb (sc.names.lookup ("range" : Str)) = true) :
    SndE Γ n N sc (.Call (.Name "list" p) [.Call (.Name "range" p2) [b] [] pos2] [] pos) (fun ρ S => bnd (bnd (g ρ S) fun y S2 => some (.ok [y] S2)) fun ds S1 => lift2 (biD S1 .rng1 ds)) := fun E => by
  obtain ⟨u, h3, h4⟩ := hb E
  refine ⟨tLstRg (tRg1 u), fun X gd hx => ?_, ?_⟩
  · have hm : X.mg "list" = none := by rw [gd.mg]; exact F.free _ (by decide +kernel)
    have hm2 : X.mg "range" = none := by rw [gd.mg]; exact F.free _ (by decide +kernel)
    refine pe_listRg gd.calm (gd.gl hg) hm (prg_1 (gd.gl hg2) hm2 (h3 X gd hx) ?_) rfl
    rw [star_cons s2]
  · intro m H S ρ σ rr Q rel vo hf p
    dsimp only at hf
    cases q2 : g ρ S with
    | none => rw [q2] at hf; cases hf
    | some r2 =>
      rw [q2] at hf
      refine h4 m H S ρ σ r2 _ rel vo q2 ?_
      cases r2 with
      | ex c dv S2 => cases hf; exact p
      | ok y S2 =>
        intro w H2 m2 e2 rel2 hw
        rw [bnd_ok, bnd_ok] at hf
        obtain ⟨z, g1, g2⟩ := map_some (show (biD S2 .rng1 [y]).map (fun q => R.ok q.1 q.2) = some rr from hf)
        subst g2
        cases y with
        | int j =>
          obtain ⟨g3, g4⟩ := if_some (show (if rgOk 0 j then some (D.ref S2.length, S2 ++ [.lst (rgD 0 j)]) else none) = some z from g1)
          subst g4
          have hw : w = .int j := hw
          subst hw
          refine ⟨j, rfl, g3, fun l hl => ?_⟩
          obtain ⟨a1, a2, a3⟩ := new_lst rel2 hl (rg_rel 0 j)
          exact post_ok p (e2.trans a1) a2 a3
        | _ => cases g1
/-! ### xs.append(e), xs.extend(ys) -/
def isNameE : Expr → Bool
  | .Name _ _ => true
  | _ => false
theorem set_lst {K : PySem.W.Frag} {m : List Addr} {S : Sto} {H : Hp} {r : Nat} {a : Addr} {ds es : List D} {vs : List V} (rel : Rel K m S H) (h : m[r]? = some a) (he : VRs K m H es vs) :
    Ext K m H m (upd H a (.lst vs)) ∧ Rel K m (S.set r (.lst es)) (upd H a (.lst vs)) := by
  have e := Ext.set (u := .lst vs) rel h
  exact ⟨e, rel.set h ⟨vs, upd_same, VRs.mono e _ _ he⟩⟩
theorem isL_of {K : PySem.W.Frag} {m : List Addr} {S : Sto} {H : Hp} {x : D} {v : V} (rel : Rel K m S H) (h : VR K m H x v) (e : isL S x = true) : ∃ r a xs vs, x = .ref r ∧ v = .ref a ∧ m[r]? = some a ∧ lstAt S r = some xs ∧ H a = some (.lst vs) ∧ VRs K m H xs vs := by
  cases x with
  | ref r =>
    obtain ⟨a, e1, h1⟩ := h
    obtain ⟨xs, e2⟩ := Option.isSome_iff_exists.mp (show (lstAt S r).isSome = true from e)
    obtain ⟨vs, g1, g2⟩ := rel.lst h1 (lstAt_some e2)
    exact ⟨r, a, xs, vs, rfl, e1, h1, e2, g1, g2⟩
  | _ => cases e
theorem few_one {b : Expr} {pos : Pos} {env : Env} (h : isStar b = false) : ((backTo pos (starEach [b] env)).all (fun x => !x.1) && (backToKw pos (keywordEach [] env)).all (fun x => x.1.isSome) && decide (([b] : List Expr).length + ([] : List Keyword).length + (if ([] : List Keyword).isEmpty then 0 else 1) < 30)) = true := by
  rw [star_cons h]; rfl
theorem base_name {a : Expr} {nm : Str} {env : Env} (h : isNameE a = true) : attributeBase a nm env (eval a env) = eval a env := by
  cases a <;> first | rfl | cases h
/-- a method of a list, with one argument -/
theorem ref_lm {K : PySem.W.Frag} {XR : List Addr → Hp → Value → Option Addr → Nat → D → Prop} {E : XK} {t u : TE} {f g : Loc → Sto → Option (R D)} {r : V → List V → Hp → VK → Prop} {k : Sto → D → D → Option (R D)} (ha : RefE K XR E t f) (hb : RefE K XR E u g)
    (hk : ∀ m H S x y v w rr (Q : VK), Rel K m S H → VR K m H x v → VR K m H y w → k S x y = some rr → Post K XR E (VR K) m H rr Q → r v [w] H Q) :
    RefE K XR E (tBM K "list" r t (tCons u tNil)) (fun ρ S => bnd (f ρ S) fun x S1 => if isL S1 x = true then bnd (g ρ S1) fun y S2 => k S2 x y else none) := by
  intro m H S ρ σ rr Q rel vo hf p
  refine ref_bnd ha rel vo hf p fun x S1 v H1 m1 e1 rel1 vo1 hv hf p => ?_
  split at hf
  · rename_i hl
    obtain ⟨r0, a, xs, vs, _, ev, h1, h2, h3, h4⟩ := isL_of rel1 hv hl
    refine ⟨?_, ?_⟩
    · subst ev
      exact Or.inl ⟨rfl, vs, Or.inl (Or.inl h3)⟩
    · refine ref_bnd hb rel1 vo1 hf p fun y S2 w H2 m2 e2 rel2 vo2 hw hf p => ?_
      exact hk m2 H2 S2 x y v w rr Q rel2 (VR.mono e2 x v hv) hw hf p
  · cases hf
theorem snd_app {a b : Expr} {apos pos : Pos} {f g : Loc → Sto → Option (R D)} (ha : SndE Γ n N sc a f) (hb : SndE Γ n N sc b g) (hn : isNameE a = true) (hs : isStar b = false) (hl : (apos.endLine == pos.line) = true) :
    SndE Γ n N sc (.Call (.Attribute a "append" apos) [b] [] pos) (fun ρ S => bnd (f ρ S) fun x S1 => if isL S1 x = true then bnd (g ρ S1) fun y S2 => appD S2 x y else none) := fun E => by
  obtain ⟨t, h1, h2⟩ := ha E
  obtain ⟨u, h3, h4⟩ := hb E
  refine ⟨tBM Γ.K "list" rAppend t (tCons u tNil), fun X gd hx => ?_, ref_lm h2 h4 ?_⟩
  · have s1 := star_cons (es := []) (env := X.env) hs
    have z : PE X (.Call (.Attribute a "append" apos) [b] [] pos) (tBM X.K "list" rAppend t (tCons u tNil)) :=
      pe_bm PySem.F.plainAttrs_list PySem.F.slot_list_append PySem.F.type_list_append mt_append (h1 X gd hx) (pa_cons (h3 X gd hx) pa_nil s1) (base_name hn) (few_one hs) hl s1 rfl
    rw [gd.K] at z
    exact z
  · intro m H S x y v w rr Q rel hv hw hf p
    unfold appD at hf
    split at hf
    · rename_i r
      split at hf
      · rename_i xs q
        obtain ⟨g1, g2⟩ := if_some hf
        subst g2
        obtain ⟨a0, ev, hm⟩ := hv
        obtain ⟨vs, q3, q4⟩ := rel.lst hm (lstAt_some q)
        obtain ⟨b1, b2⟩ := set_lst (ds := xs) rel hm (q4.append (VRs.cons hw VRs.nil))
        exact ⟨a0, vs, w, ev, rfl, q3, by rw [q4.length]; exact g1, post_ok p b1 b2 rfl⟩
      · cases hf
    · cases hf
theorem snd_ext {a b : Expr} {apos pos : Pos} {f g : Loc → Sto → Option (R D)} (ha : SndE Γ n N sc a f) (hb : SndE Γ n N sc b g) (hn : isNameE a = true) (hs : isStar b = false) (hl : (apos.endLine == pos.line) = true) :
    SndE Γ n N sc (.Call (.Attribute a "extend" apos) [b] [] pos) (fun ρ S => bnd (f ρ S) fun x S1 => if isL S1 x = true then bnd (g ρ S1) fun y S2 => extD S2 x y else none) := fun E => by
  obtain ⟨t, h1, h2⟩ := ha E
  obtain ⟨u, h3, h4⟩ := hb E
  refine ⟨tBM Γ.K "list" rExtend t (tCons u tNil), fun X gd hx => ?_, ref_lm h2 h4 ?_⟩
  · have s1 := star_cons (es := []) (env := X.env) hs
    have z : PE X (.Call (.Attribute a "extend" apos) [b] [] pos) (tBM X.K "list" rExtend t (tCons u tNil)) :=
      pe_bm PySem.F.plainAttrs_list PySem.F.slot_list_extend PySem.F.type_list_extend mt_extend (h1 X gd hx) (pa_cons (h3 X gd hx) pa_nil s1) (base_name hn) (few_one hs) hl s1 rfl
    rw [gd.K] at z
    exact z
  · intro m H S x y v w rr Q rel hv hw hf p
    unfold extD at hf
    split at hf
    · rename_i r q
      split at hf
      · rename_i xs ys q1 q2
        obtain ⟨g1, g2⟩ := if_some hf
        subst g2
        obtain ⟨a0, ev, hm⟩ := hv
        obtain ⟨b0, ew, hm2⟩ := hw
        obtain ⟨vs, q3, q4⟩ := rel.lst hm (lstAt_some q1)
        obtain ⟨ws, q5, q6⟩ := rel.lst hm2 (lstAt_some q2)
        obtain ⟨b1, b2⟩ := set_lst (ds := xs) rel hm (q4.append q6)
        exact ⟨a0, b0, vs, ws, ev, by rw [ew], q3, q5, by rw [q4.length, q6.length]; exact g1, post_ok p b1 b2 rfl⟩
      · cases hf
    · cases hf
/-! ### dicts that are written -/
theorem snd_dic0 {pos : Pos} : SndE Γ n N sc (.Dict [] [] pos) (fun _ S => bnd (some (.ok ([] : List D) S)) fun ds S1 => some (.ok (.ref S1.length) (S1 ++ [.dct ((([] : List Str).map Sum.inr).zip ds)]))) := fun E => by
  refine ⟨tDNewK, fun X gd hx => pe_dnewK, ?_⟩
  intro m H S ρ σ rr Q rel vo hf p
  cases hf
  intro q hq
  have e := Ext.new (o := .dK []) rel hq [q] (by simp)
  exact post_ok p e (rel.alloc hq ⟨[], upd_same, rfl, rfl⟩) ⟨q, rfl, by rw [← rel.len]; exact alloc_get q⟩
/-- one written key -/
theorem snd_dic1 {x : Str} {b : Expr} {j : Nat} {p pos : Pos} {g : Loc → Sto → Option (R D)} (hb : SndE Γ n N sc b g) : SndE Γ n N sc (.Dict [some (.Constant (.str x) j p)] [b] pos) (fun ρ S => bnd (bnd (g ρ S) fun d S1 => some (.ok [d] S1)) fun ds S1 => some (.ok (.ref S1.length) (S1 ++ [.dct ((([x] : List Str).map Sum.inr).zip ds)]))) := fun E => by
  obtain ⟨u, h3, h4⟩ := hb E
  refine ⟨tDisp [(tC (.str x), u)], fun X gd hx => pe_disp (pps_cons pe_str (h3 X gd hx) pps_nil) rfl rfl (by simp) (by simp), ?_⟩
  intro m H S ρ σ rr Q rel vo hf p
  intro q hq
  have e := Ext.new (o := .dK []) rel hq [] (by simp)
  rw [List.append_nil] at e
  have rel0 : Rel Γ.K m S (upd H q (.dK [])) := ⟨rel.len, rel.inj, fun n a o g1 g2 => OR.mono e (upd_ne fun z => rel.fresh hq (z ▸ List.mem_of_getElem? g1)) (rel.obj n a o g1 g2)⟩
  have vo0 := vo.mono e
  show u σ (upd H q (.dK [])) _
  dsimp only at hf
  cases q2 : g ρ S with
  | none => rw [q2] at hf; cases hf
  | some r2 =>
    rw [q2] at hf
    refine h4 m _ S ρ σ r2 _ rel0 vo0 q2 ?_
    cases r2 with
    | ex c dv S1 => cases hf; exact PostX.mono e p
    | ok d S1 =>
      intro w H2 m2 e2 rel2 hw
      rw [bnd_ok, bnd_ok] at hf
      cases hf
      obtain ⟨f1, f2⟩ := e2.frm q _ upd_same (rel.fresh hq)
      refine ⟨f1, [(Sum.inr x, w)], rfl, by simp, ?_⟩
      have em : mergeK [] [((Sum.inr x : Key), w)] = [((Sum.inr x : Key), w)] := rfl
      rw [em]
      have np := f2
      have e3 := ex0_upd (K := Γ.K) (m := m2) (u := .dK [(Sum.inr x, w)]) f1 (fun _ z => nomatch z) (fun _ _ z => nomatch z)
      have hr := rel2.adopt (o := .dct ((([x] : List Str).map Sum.inr).zip [d])) np e3 ⟨[(Sum.inr x, w)], upd_same, rfl, VRs.mono0 e3 [d] [w] (VRs.cons hw VRs.nil)⟩
      exact post_ok p (Ext.adopt rel hq e2 f1 (fun _ z => nomatch z) (fun _ _ z => nomatch z)) hr ⟨q, rfl, by rw [← rel2.len]; exact alloc_get q⟩
end
end Mi

end
section
set_option Elab.async false
set_option linter.all false
set_option maxRecDepth 100000
set_option maxHeartbeats 1000000
/-! t[::-1], a tuple. -/
namespace Mi
open PySem L2 PySem.Spec PyProof.Rows HT
section
variable {prog : Program} {w : World} {A : Around} {E : Value → Shared → Prop} {s : Shared}
theorem applied_back {sl : Addr} {vs : Value} {n : Nat} {Q : Int × Int × Nat → Shared → Prop} (hs : s.heap.IsSliceOf sl .none .none vs) (ps : IsPart vs (some (-1)))
    (h : Q ((n : Int) - 1, -1, n) s) : wpAny (model prog w) A (Builtin.Slice.sliceApplied (.ref sl) (pure (n : Int))) Q E s := by
  obtain ⟨os, hos, hcs, hds⟩ := id hs
  unfold Builtin.Slice.sliceApplied Builtin.Slice.sliceFields
  refine wpAny_bind (wpAny_bind (wpAny_field hos hds (x := .none) rfl (wpAny_bind (wpAny_field hos hds (x := .none) rfl (wpAny_bind (wpAny_field hos hds (x := vs) rfl (wpAny_pure ?_)))))))
  refine wpAny_bind (slicePart_ ps ?_)
  show wpAny _ _ (if ((-1 : Int) == 0) = true then _ else _) _ _ s
  rw [if_neg (by decide)]
  refine wpAny_bind (slicePart_none (wpAny_bind (slicePart_none (wpAny_bind (wpAny_pure ?_)))))
  have e : Builtin.Slice.slicePlaces ((n : Int) - 1) (-1) (-1) = n := by
    unfold Builtin.Slice.slicePlaces
    have h1 : ¬ ((-1 : Int) > 0) := by decide
    simp only [h1, if_false, Int.neg_neg, Int.ediv_one]
    split <;> omega
  show wpAny _ _ (pure ((n : Int) - 1, (-1 : Int), Builtin.Slice.slicePlaces ((n : Int) - 1) (-1) (-1))) _ _ s
  rw [e]
  exact wpAny_pure h
theorem fmap_congr {α β : Type} {f g : α → Option β} : ∀ {l : List α}, (∀ x ∈ l, f x = g x) → l.filterMap f = l.filterMap g
  | [], _ => rfl
  | x :: l, h => by
    rw [List.filterMap_cons, List.filterMap_cons, h x List.mem_cons_self, fmap_congr fun y hy => h y (List.mem_cons_of_mem _ hy)]
theorem pick_back (xs : Array Value) : ((List.range xs.size).filterMap fun (m : Nat) => xs[((xs.size : Int) - 1 + (m : Int) * (-1)).toNat]?) = xs.toList.reverse := by
  have e : ((List.range xs.size).filterMap fun (m : Nat) => xs[((xs.size : Int) - 1 + (m : Int) * (-1)).toNat]?) = ((List.range xs.size).map fun k => xs.size - 1 - k).filterMap (xs[·]?) := by
    rw [List.filterMap_map]
    refine fmap_congr fun m hm => ?_
    have hm := List.mem_range.mp hm
    have : ((xs.size : Int) - 1 + (m : Int) * (-1)).toNat = xs.size - 1 - m := by omega
    rw [this]
    rfl
  rw [e, PySem.W.krv_range, List.filterMap_reverse, PySem.W.krv_all]
theorem getItem_tuple_back {t sl : Addr} {items : Array Value} {vs : Value} {Q : Value → Shared → Prop} (ht : IsTup s.heap t items) (hs : s.heap.IsSliceOf sl .none .none vs) (ps : IsPart vs (some (-1)))
    (h : Q (.ref s.heap.objs.size) { s with heap := s.heap.push { cls := .type "tuple", data := .seq items.toList.reverse.toArray } })
    (hsz : items.size ≤ sizeLine) : wpAny (model prog w) A (getItem (.ref t) (.ref sl)) Q E s := by
  have hrev : sizeOk (.seq items.toList.reverse.toArray) := by
    show items.toList.reverse.toArray.size ≤ sizeLine
    rw [List.size_toArray, List.length_reverse, Array.length_toList]
    exact hsz
  obtain ⟨os, hos, hcs, hds⟩ := id hs
  have hTs : s.TypeIs (.ref sl) "slice" := ⟨os, hos, hcs⟩
  unfold getItem
  try with_reducible refine wpAny_holding ?_
  first | refine wpAny_bind (wpAny_pure ?_) | skip
  refine wpAny_bind (wpAny_sequenceKey ht.typeIs (by decide) ?_)
  refine wpAny_bind (wpAny_callSpecial?_slot (name := Str.ofString "__getitem__") ht.typeIs PyProof.Rows.slot_tuple_getitem
    (wpAny_call_entry PyProof.Rows.slot_tuple_getitem ht.typeIs entry_tuple_getitem ?_ (args_tuple_getitem _ _)))
  show wpAny _ _ (Builtin.Tuple.tupleItemsOf (.ref t) >>= _) _ _ s
  refine wpAny_bind (tupleItemsOf_ ht ?_)
  refine wpAny_bind (wpAny_typeOf hTs ?_)
  rw [if_pos (by decide)]
  refine wpAny_bind (applied_back hs ps ?_)
  have hno : ¬ ((((items.size : Int) - 1) == 0 && (-1 : Int) == 1 && items.size == items.size) = true) := by
    have z : ((-1 : Int) == 1) = false := by decide
    rw [z, Bool.and_false, Bool.false_and]
    exact Bool.false_ne_true
  show wpAny _ _ (if (((items.size : Int) - 1) == 0 && (-1 : Int) == 1 && items.size == items.size) = true then _ else _) _ _ s
  rw [if_neg hno, pick_back]
  first
    | exact wpAny_bind (m := Builtin.Tuple.tupleExact _) (wpAny_newObj_type (wpAny_pure ⟨_, rfl, wpAny_pure h⟩) hrev)
    | exact wpAny_bind (m := Builtin.Tuple.tupleExact _) (wpAny_newObj_type (wpAny_bind (wpAny_pure (wpAny_pure ⟨_, rfl, wpAny_pure h⟩))) hrev)
    | exact wpAny_bind (wpAny_bind (m := Builtin.Tuple.tupleExact _) (wpAny_newObj_type (wpAny_pure (wpAny_pure ⟨_, rfl, wpAny_pure h⟩)) hrev))
    | exact wpAny_bind (wpAny_bind (m := Builtin.Tuple.tupleExact _) (wpAny_newObj_type (wpAny_pure ⟨_, rfl, wpAny_pure h⟩) hrev))
end
section
variable {X : Cx}
def tRevT (K : PySem.W.Frag) (te : TE) : TE := fun σ H Q => te σ H fun x H1 => ∃ a xs, x = .ref a ∧ SqT K H1 a xs ∧ ∀ p, H1 p = none → Q (.ref p) (upd H1 p (.tup xs.reverse))
theorem pe_revT {e : Expr} {te : TE} {k : Nat} {p1 p2 p3 pos : Pos} (he : PE X e te) : PE X (.Subscript e (.Slice none none (some (.UnaryOp .USub (.Constant (.int 1) k p1) p2)) p3) pos) (tRevT X.K te) := by
  refine ⟨fun pins s σ H Q I h => ?_⟩
  refine Subscript_ (thn (he.run pins s σ H _ I h) fun v s1 ⟨x, H1, I1, r1, q1⟩ => ?_)
  obtain ⟨a, xs, ex, hx, q⟩ := q1
  subst ex
  cases r1
  have hst : PO X (some (.UnaryOp .USub (.Constant (.int 1) k p1) p2)) (tPart (tUn (rU fun i => .int (-i)) (tC (.int 1)))) := po_some (pe_un un_neg pe_int)
  refine wpAny_Slice (thn (po_none.run pins s1 σ H1 (fun o H2 => o = none ∧ H2 = H1) I1 ⟨rfl, rfl⟩) fun vl s2 ⟨l, H2, I2, pl, el, e2⟩ => ?_)
  subst el e2
  refine thn (po_none.run pins s2 σ H2 (fun o H3 => o = none ∧ H3 = H2) I2 ⟨rfl, rfl⟩) fun vu s3 ⟨u, H3, I3, pu, eu, e3⟩ => ?_
  subst eu e3
  refine thn (hst.run pins s3 σ H3 (fun o H4 => o = some (-1) ∧ H4 = H3) I3 ⟨1, rfl, -1, rfl, rfl, rfl⟩) fun vs s4 ⟨o, H4, I4, ps, eo, e4⟩ => ?_
  subst eo e4
  have I5 : L2.Inv X pins σ H4 { s4 with heap := s4.heap.push { cls := .type "slice", data := .fields #[vl, vu, vs] } } := I4.kept (t' := s4.toks) fun b ob q => Heap.get?_push_of_some _ q
  obtain ⟨its, r, ht, hz⟩ := I5.tuple hx
  have hlen := r.length
  show wpAny (model X.prog X.w) X.A (subscriptTail e (.Slice none none (some (.UnaryOp .USub (.Constant (.int 1) k p1) p2)) p3) (.ref a) (.ref s4.heap.objs.size)) (EP X pins σ Q) X.xe { s4 with heap := s4.heap.push { cls := .type "slice", data := .fields #[vl, vu, vs] } }
  refine tail_any (ops := [.ref a, .ref s4.heap.objs.size]) ht.typeIs PyProof.Rows.slot_tuple_getitem.lookup ?_ (by with_unfolding_all rfl)
  cases pl
  cases pu
  refine getItem_tuple_back ht (Heap.IsSliceOf.new _ .none .none vs) ps ?_ (by rw [List.size_toArray]; omega)
  refine ⟨.ref _, _, I5.laid (t' := s4.toks) (o := .tup xs.reverse) (fun b ob q => Heap.get?_push_of_some _ q) (Nat.le_refl _) ?_, rfl, q _ (I5.hok.fresh (Nat.le_refl _))⟩
  exact ⟨by rw [List.length_reverse]; exact hz, _, r.reverse, IsTup.new _ _⟩
end
section
variable {Γ : Gm} {n : Nat} {N : List Str} {sc : Scope}
theorem snd_rev {a : Expr} {k : Nat} {p1 p2 p3 pos : Pos} {f : Loc → Sto → Option (R D)} (ha : SndE Γ n N sc a f) : SndE Γ n N sc (.Subscript a (.Slice none none (some (.UnaryOp .USub (.Constant (.int 1) k p1) p2)) p3) pos) (fun ρ S => bnd (f ρ S) fun x S1 => lift2 (revD S1 x)) := fun E => by
  obtain ⟨t, h1, h2⟩ := ha E
  refine ⟨tRevT Γ.K t, fun X gd hx => ?_, ?_⟩
  · have z : PE X (.Subscript a (.Slice none none (some (.UnaryOp .USub (.Constant (.int 1) k p1) p2)) p3) pos) (tRevT X.K t) := pe_revT (h1 X gd hx)
    rw [gd.K] at z
    exact z
  · intro m H S ρ σ rr Q rel vo hf p
    refine ref_bnd h2 rel vo hf p fun x S1 v H1 m1 e1 rel1 vo1 hv hf p => ?_
    cases x with
    | tup ds =>
      have hf : some (R.ok (D.tup ds.reverse) S1) = some rr := hf
      cases hf
      obtain ⟨b, xs, e, g1, g2⟩ := hv
      refine ⟨b, xs, e, g1, fun q hq => ?_⟩
      obtain ⟨a1, a2, a3⟩ := new_tup rel1 hq g2.reverse
      exact post_ok p a1 a2 a3
    | _ => cases hf
end
end Mi

end
section
set_option Elab.async false
set_option linter.all false
set_option maxRecDepth 100000
set_option maxHeartbeats 3200000
/-! sorted(set(a list of ints)), any number of them below the scan's bound. -/
namespace Mi
open PySem L2 PySem.Spec PyProof.Rows
section
variable {prog : Program} {w : World} {A : Around} {R : Result → Shared → Prop} {I : Addr} {fp wr : List Addr} {G : Array GenState → Array GenState → Prop} {n : Nat} {P : Nat → Value → Prop} {St : Nat → Shared → Prop}
/-- the members so far, as the set's own table has them -/
def Mem (w : World) (h : Heap) (S : Addr) (val : Nat → Int) (i : Nat) : Prop := SetR w h S (fun k => (firstMet val i).any (· == k)) (firstMet val i).length
theorem mem_turn (W : WalksS prog w A.in1 I fp wr G n P St) (S : Addr) (hSf : S ∉ fp) (val : Nat → Int) (hval : ∀ i v, P i v → ∃ t, v = .int (val i) t) (hb : n + 1 < scanBound) :
    ∀ (k i : Nat) (s : Shared), n - i = k → i ≤ n → St i s → Mem w s.heap S val i → (∀ s', Moved (S :: wr) G s s' → Mem w s'.heap S val n → R (.ok (.ret .none)) s') →
      codeAny (model prog w) A (.builtin "set.update.loop" ⟨[.ref S, .ref I], []⟩) R s := by
  have out : S ∉ wr := fun h => hSf (W.sub _ h)
  have more : ∀ b ∈ wr, b ∈ S :: wr := fun b hb => List.mem_cons_of_mem _ hb
  intro k
  induction k with
  | zero =>
    intro i s hk hi hst hS hR
    obtain rfl : i = n := by omega
    refine codeAny_builtin F.entry_set_update_loop ?_
    rw [Around.under_plainId F.plain_set_update_loop _]
    show wpAny _ A.in1 (pyNext (.ref I) >>= _) _ _ s
    refine wpAny_bind (W.done s _ _ hst fun s' hm => ?_)
    show wpAny _ A.in1 (ret Value.none) _ _ s'
    exact wpAny_pure (hR s' (hm.mono more) (SetR.at hS fun o ho => hm.heap S _ out ho))
  | succ k ih =>
    intro i s hk hi hst hS hR
    have hlt : i < n := by omega
    refine codeAny_builtin F.entry_set_update_loop ?_
    rw [Around.under_plainId F.plain_set_update_loop _]
    show wpAny _ A.in1 (pyNext (.ref I) >>= _) _ _ s
    refine wpAny_bind (W.item i s _ _ hlt hst fun v s' hP hst' hm => ?_)
    obtain ⟨t, rfl⟩ := hval i v hP
    have hS' : Mem w s'.heap S val i := SetR.at hS fun o ho => hm.heap S _ out ho
    show wpAny _ A.in1 (holding [Value.int (val i) t] (setAdd S (.int (val i) t)) >>= _) _ _ s'
    refine wpAny_bind (wpAny_holding ?_)
    unfold setAdd
    refine wpAny_holding ?_
    refine wpAny_bind ((intKind prog w).pyHash (k := val i) (intKind_is _ _ _ _) ?_)
    have room : (firstMet val i).length + 1 < scanBound := by have := firstMet_length_le val i; omega
    refine setR_add_hashed (s := { s' with toks := s'.toks + 1 }) hS' room fun h' sb hS2 => ?_
    have hSi : Mem w h' S val (i + 1) := by
      unfold Mem
      have e1 : (fun k' => (firstMet val (i + 1)).any (· == k')) = fun j => (firstMet val i).any (· == j) || decide (j = val i) := by
        funext k'; rw [firstMet_succ, step_any]
      have e2 : (firstMet val (i + 1)).length = if ((firstMet val i).any (· == val i)) = true then (firstMet val i).length else (firstMet val i).length + 1 := by rw [firstMet_succ, step_length]
      rw [e1, e2]
      exact hS2
    refine wpAny_pure ⟨plainId_quiet F.plain_set_update_loop _, ih (i + 1) _ (by omega) hlt (W.frame _ s' _ _ hst' (Nat.le_succ _) fun b hb o e => ?_) hSi fun s'' hm'' hS'' => ?_⟩
    · rw [sb.2 b (fun h : b = S => hSf (by rw [← h]; exact hb))]; exact e
    · refine hR s'' (Moved.trans W.gtrans ((hm.mono more).then_heap (Nat.le_succ _) fun b o hb e => ?_) hm'') hS''
      rw [sb.2 b (fun h : b = S => hb (by rw [h]; exact List.mem_cons_self))]; exact e
end
section
variable {prog : Program} {w : World} {A : Around} {E : Value → Shared → Prop} {s : Shared}
/-- the set's record as it is made: led where the world asks for it -/
theorem fresh_led (a : Value) {Q₁ : Value → Shared → Prop}
    (h : Q₁ (.ref s.heap.objs.size) { s with heap := s.heap.push { cls := .type "set", dict := none, data := .set #[] 0 (.fresh 0 0 (!w.params.followText "set-order")) } }) :
    codeAny (model prog w) A (.call (.builtin "set.__new__") ⟨[.type "set", a], []⟩) (wants Q₁ E) s := by
  refine codeAny_of_tree ?_
  show wpAny _ A.in1 (do checkBuiltinCall "set.__new__" ⟨[.type "set", a], []⟩; again (.builtin "set.__new__" ⟨[.type "set", a], []⟩)) _ _ s
  refine wpAny_bind (wpAny_of_eq (PySem.F.newCall_set_1 a) (wpAny_pure ⟨plainId_quiet F.plain_set_new _, codeAny_builtin F.entry_set_new ?_⟩))
  rw [Around.under_plainId F.plain_set_new _]
  unfold Builtin.«set.__new__» Builtin.Frozenset.newClass
  have hsub := sub_set_self
  obtain ⟨hp, g, d, tk, os⟩ := s
  dsimp only
  wp_walk
  refine wpAny_askSetting (wpAny_pure ?_)
  dsimp only
  simp only [newObj]
  refine wpAny_bind (wpAny_alloc (wpAny_pure ?_))
  exact wpAny_pure h
theorem set_of_list {l : Addr} {items : Array Value} {ns : List Int} {Q : Value → Shared → Prop}
    (hh : A.handled = none) (hl : s.heap.IsList l items) (hi : PyProof.Rows.IntsAre items.toList ns) (hb : items.size + 1 < scanBound)
    (h : ∀ (h' : Heap) (tk : Nat), Mem w h' s.heap.objs.size (fun i => ns.getD i 0) items.size → (∀ b o, b < s.heap.objs.size → s.heap.get? b = some o → h'.get? b = some o) → Q (.ref s.heap.objs.size) { s with heap := h', toks := tk }) :
    wpAny (model prog w) A (call (.type "set") [.ref l]) Q E s := by
  obtain ⟨c, tl, hmro⟩ := PySem.F.called_set.mro
  have hmade := PySem.F.called_set.made
  have hsub := PySem.F.called_set.sub
  refine wpAny_call (codeAny_of_tree ?_)
  show wpAny _ _ (callAny (.type "set") _) _ _ _
  refine wpAny_pure ⟨Code.quiet_builtin _ (by decide +kernel), codeAny_builtin PySem.F.entry_type_call ?_⟩
  rw [Around.under_plain (weight_type_call_type "set" [.ref l] []) rfl]
  have h1 := PySem.F.called_set.notType
  have h2 := PySem.F.called_set.canCreate
  have hct := PySem.F.typeCall_set_1 (.ref l)
  repeat (any_goals (first | assumption | wp_step))
  generalize hled : (!w.params.followText "set-order") = led
  refine codeAny_mono (fresh_led (.ref l) (E := E) (Q₁ := fun obj s₁ => obj = .ref s.heap.objs.size ∧ s₁ = { s with heap := s.heap.push { cls := .type "set", dict := none, data := .set #[] 0 (.fresh 0 0 led) } }) (by subst hled; exact ⟨rfl, rfl⟩)) fun r s₁ hr => ?_
  cases r with
  | error e => exact hr
  | ok fl =>
    cases fl with
    | ret obj =>
      obtain ⟨rfl, rfl⟩ := hr
      have hS : (s.heap.push { cls := .type "set", dict := none, data := .set #[] 0 (.fresh 0 0 led) }).get? s.heap.objs.size = some { cls := .type "set", dict := none, data := .set #[] 0 (.fresh 0 0 led) } := Heap.get?_push_size _ rfl
      have hT : Shared.TypeIs { s with heap := s.heap.push { cls := .type "set", dict := none, data := .set #[] 0 (.fresh 0 0 led) } } (.ref s.heap.objs.size) "set" := ⟨_, hS, rfl⟩
      have hli := PySem.F.called_set.init.lookup
      have hbi := PySem.F.called_set.init.bind (.ref s.heap.objs.size)
      repeat (any_goals (first | assumption | wp_step))
      refine codeAny_mono (codeAny_call_builtin (R := wants (fun r s₂ => r = .none ∧ ∃ h' tk, s₂ = { s with heap := h', toks := tk } ∧ Mem w h' s.heap.objs.size (fun i => ns.getD i 0) items.size ∧
          (∀ b o, b < s.heap.objs.size → s.heap.get? b = some o → h'.get? b = some o)) E) PySem.F.called_set.init.plain PySem.F.entry_set_init (check_set_init_1 hT ?_)) fun r₂ s₂ hr₂ => ?_
      · obtain ⟨ol, hol, hcl, nl, hdl⟩ := hl
        obtain ⟨ocls, odict, odata, oslots⟩ := ol
        simp only at hcl hdl
        subst hcl; subst hdl
        have hol' : (s.heap.push { cls := .type "set", dict := none, data := .set #[] 0 (.fresh 0 0 led) }).get? l = some { cls := .type "list", dict := odict, data := .seq items nl, slots := oslots } := Heap.get?_push_of_some _ hol
        have hsls := PySem.F.sub_list_set
        have hslf := PySem.F.sub_list_frozenset
        have hne : (Value.type "list" == Value.type "dict") = false := by decide
        have hl1 : (s.heap.push { cls := .type "set", dict := none, data := .set #[] 0 (.fresh 0 0 led) }).IsList l items := ⟨_, hol', rfl, nl, rfl⟩
        unfold Builtin.«set.__init__» noKeywords Builtin.Frozenset.updateFrom
        generalize hPI : pyIter = PI
        wp_walk
        subst hPI
        refine wpAny_pyIter_list hl1 ?_
        refine wpAny_bind (wpAny_runValue ?_)
        have hlS : l < s.heap.objs.size := Heap.lt_size hol
        have hh3 : A.in1.in1.in1.handled = none := by simp [hh]
        have hneI : l ≠ (s.heap.push { cls := .type "set", dict := none, data := .set #[] 0 (.fresh 0 0 led) }).objs.size := by
          rw [Heap.size_push]; exact Nat.ne_of_lt (Nat.lt_succ_of_lt hlS)
        have hSf : s.heap.objs.size ∉ [(s.heap.push { cls := .type "set", dict := none, data := .set #[] 0 (.fresh 0 0 led) }).objs.size, l] := by
          rw [Heap.size_push]; simp only [List.mem_cons, List.mem_singleton, List.not_mem_nil, or_false, not_or]
          exact ⟨Nat.ne_of_lt (Nat.lt_succ_self _), Nat.ne_of_gt hlS⟩
        have hval : ∀ (i : Nat) (v : Value), items[i]? = some v → ∃ t, v = .int ((fun i => ns.getD i 0) i) t := fun i v hv =>
          PyProof.Rows.IntsAre.int_at hi i v (by rw [Array.getElem?_toList]; exact hv)
        refine mem_turn ((Walks.list hh3 _ l hneI items).toS) s.heap.objs.size hSf (fun i => ns.getD i 0) hval hb (items.size - 0) 0 _ (by omega) (Nat.zero_le _)
          ⟨⟨_, Heap.get?_push_size _ rfl, rfl, rfl⟩, (hl1.push _)⟩ ?hS0 ?hR
        case hS0 =>
          have z : Mem w (s.heap.push { cls := .type "set", dict := none, data := .set #[] 0 (.fresh 0 0 led) }) s.heap.objs.size (fun i => ns.getD i 0) 0 := by
            subst hled
            exact setR_fresh w
          exact SetR.at z fun o e => Heap.get?_push_of_some _ e
        case hR =>
          intro s' hm hS'
          obtain ⟨h', g', d', tk', os'⟩ := s'
          have eg : g' = s.gens := hm.gens
          have ed : d' = s.drawn := hm.drawn
          have eo : os' = s.os := hm.os
          subst eg; subst ed; subst eo
          show wpAny _ _ _ _ _ _
          refine wpAny_pure ?_
          show wpAny _ _ (ret Value.none) _ _ _
          refine wpAny_pure ⟨rfl, h', tk', rfl, hS', fun b o hb e => ?_⟩
          have hb1 : b ≠ s.heap.objs.size := Nat.ne_of_lt hb
          have hb2 : b ≠ (s.heap.push { cls := .type "set", dict := none, data := .set #[] 0 (.fresh 0 0 led) }).objs.size := by
            rw [Heap.size_push]; exact Nat.ne_of_lt (Nat.lt_succ_of_lt hb)
          exact hm.heap b o (by simp only [List.mem_cons, List.mem_singleton, List.not_mem_nil, or_false, not_or]; exact ⟨hb1, hb2⟩) (Heap.get?_push_of_some _ (Heap.get?_push_of_some _ e))
      · cases r₂ with
        | error e => exact hr₂
        | ok fl₂ =>
          cases fl₂ with
          | ret r =>
            obtain ⟨rfl, h', tk, rfl, hS', hk'⟩ := hr₂
            repeat (any_goals (first | assumption | wp_step))
            exact h _ _ hS' hk'
          | _ => exact hr₂.elim
    | _ => exact hr.elim
/-- sorted, of a set of any size -/
theorem sorted_big {a : Addr} {S : Int → Bool} {n : Nat} {Q : Value → Shared → Prop} (R : SetR w s.heap a S n) (hh : A.handled = none)
    (hQ : ∀ s' p (out : List Value) (c : Nat) (ns : List Int), (∀ b o, s.heap.get? b = some o → s'.heap.get? b = some o) → s'.gens = s.gens → s'.os = s.os → s.heap.objs.size ≤ p →
      s'.heap.get? p = some (seqObj "list" out.toArray c) → IntsAre out ns → ns.Pairwise (· < ·) → (∀ k, k ∈ ns ↔ S k = true) → ns.length = n → Q (.ref p) s') :
    wpAny (model prog w) A (call (.builtin "sorted") [.ref a]) Q E s := by
  obtain ⟨o, es, ep, t, ho, hex, hd, g, nd, hm, hb, hf, hn, hr, hl⟩ := R
  refine Calls.call_function_entry kind_sorted plain_sorted entry_sorted (args_sorted1 _) ?_
  unfold Builtin.«sorted»
  refine wpAny_bind (m := checkCount "sorted" 1 1 _) (wpAny_pure ?_)
  refine wpAny_bind (collect_set (A := A.in1) hh ⟨o, ho, hex.1, hd⟩ hf hb hr hl fun s1 vs k1 hz g1 o1 pm => ?_)
  have hvl : vs.length = n := by rw [pm.length_eq, List.length_map, Array.length_toList]; exact hn
  have hI : IntsAre vs (vs.map Builtin.Re.reRawOf) := ints_of vs fun v hv => by
    obtain ⟨e, he, q⟩ := List.mem_map.mp (pm.mem_iff.mp hv)
    obtain ⟨k, tk, h1, _⟩ := g e he
    exact ⟨k, tk, by rw [← q]; exact h1⟩
  have pk : (vs.map Builtin.Re.reRawOf).Perm (es.toList.map keyOf) := by
    have q := pm.map Builtin.Re.reRawOf
    rw [List.map_map] at q
    exact q
  have hz2 : vs.length ≤ sizeLine := by
    have h1 : es.size < 4096 := hb
    have h2 : (4096 : Nat) ≤ sizeLine := by decide
    omega
  refine wpAny_bind (wpAny_newList ?_ hz2)
  have hoL : (s1.heap.push (seqObj "list" vs.toArray 0)).get? s1.heap.objs.size = some (seqObj "list" vs.toArray 0) := Heap.get?_push_size _ rfl
  refine wpAny_bind (wpAny_holding (wpAny_call_entry slot_list_sort ⟨_, hoL, rfl⟩ entry_list_sort (SrtO.list_sort_ord SrtO.swo_int hoL hz2 (fun h2 => SrtO.ints_sortable hI h2) fun out a1 a2 => ⟨_, rfl, ?_⟩) (args_list_sort _)))
  obtain ⟨b1, b2, b3⟩ := SrtO.ints_out hI a1 a2
  obtain ⟨c, hc⟩ := sortedHeap_at (vs := vs) (out := out.toArray) hoL
  have pn : (out.map SrtO.iv).Perm (es.toList.map keyOf) := b2.trans pk
  refine wpAny_pure ⟨_, rfl, hQ _ s1.heap.objs.size out c (out.map SrtO.iv) (fun b u e => ?_) g1 o1 hz hc b1 (lt_of_le_nodup _ b3 (pn.nodup_iff.mpr nd)) (fun k => by rw [pn.mem_iff, ← hm k]) ?_⟩
  · have q := k1 b u e
    have hlt := Heap.lt_size q
    show (sortedHeap (s1.heap.push (seqObj "list" vs.toArray 0)) s1.heap.objs.size vs out.toArray).get? b = some u
    rw [sortedHeap_old (Nat.ne_of_lt hlt) (by rw [size_push']; exact Nat.lt_succ_of_lt hlt)]
    exact Heap.get?_push_of_some _ q
  · rw [pn.length_eq, List.length_map, Array.length_toList]; exact hn
end
end Mi

end
section
set_option Elab.async false
set_option linter.all false
set_option maxRecDepth 100000
set_option maxHeartbeats 1000000
/-! sorted(set(..)), shown. -/
namespace Mi
open PySem L2 PySem.Spec PyProof.Rows
/-! ### the plain side -/
theorem insU_mem (x k : Int) : ∀ l : List Int, k ∈ insU x l ↔ k = x ∨ k ∈ l
  | [] => by simp [insU]
  | y :: ys => by
    unfold insU
    by_cases h1 : x < y
    · rw [if_pos h1]; simp
    · rw [if_neg h1]
      by_cases h2 : x = y
      · subst h2; simp
      · rw [if_neg h2, List.mem_cons, insU_mem x k ys, List.mem_cons]
        constructor
        · rintro (h | h | h)
          · exact .inr (.inl h)
          · exact .inl h
          · exact .inr (.inr h)
        · rintro (h | h | h)
          · exact .inr (.inl h)
          · exact .inl h
          · exact .inr (.inr h)
theorem insU_asc (x : Int) : ∀ l : List Int, l.Pairwise (· < ·) → (insU x l).Pairwise (· < ·)
  | [], _ => by simp [insU]
  | y :: ys, h => by
    obtain ⟨a, b⟩ := List.pairwise_cons.mp h
    unfold insU
    by_cases h1 : x < y
    · rw [if_pos h1]
      refine List.pairwise_cons.mpr ⟨fun z hz => ?_, h⟩
      rcases List.mem_cons.mp hz with e | e
      · rw [e]; exact h1
      · exact Int.lt_trans h1 (a z e)
    · rw [if_neg h1]
      by_cases h2 : x = y
      · rw [if_pos h2]; exact h
      · rw [if_neg h2]
        refine List.pairwise_cons.mpr ⟨fun z hz => ?_, insU_asc x ys b⟩
        rcases (insU_mem x z ys).mp hz with e | e
        · rw [e]; omega
        · exact a z e
theorem ssetI_mem (k : Int) : ∀ l : List Int, k ∈ ssetI l ↔ k ∈ l
  | [] => by simp [ssetI]
  | x :: l => by
    show k ∈ insU x (ssetI l) ↔ _
    rw [insU_mem, ssetI_mem k l, List.mem_cons]
theorem ssetI_asc : ∀ l : List Int, (ssetI l).Pairwise (· < ·)
  | [] => by simp [ssetI]
  | x :: l => insU_asc x _ (ssetI_asc l)
theorem asc_same : ∀ {a b : List Int}, a.Pairwise (· < ·) → b.Pairwise (· < ·) → (∀ k, k ∈ a ↔ k ∈ b) → a = b
  | [], [], _, _, _ => rfl
  | [], y :: _, _, _, h => absurd ((h y).mpr List.mem_cons_self) (by simp)
  | x :: _, [], _, _, h => absurd ((h x).mp List.mem_cons_self) (by simp)
  | x :: a, y :: b, ha, hb, h => by
    obtain ⟨a1, a2⟩ := List.pairwise_cons.mp ha
    obtain ⟨b1, b2⟩ := List.pairwise_cons.mp hb
    have e : x = y := by
      rcases List.mem_cons.mp ((h x).mp List.mem_cons_self) with e | e
      · exact e
      · rcases List.mem_cons.mp ((h y).mpr List.mem_cons_self) with q | q
        · exact q.symm
        · have := b1 x e
          have := a1 y q
          omega
    subst e
    rw [asc_same a2 b2 fun k => ?_]
    constructor
    · intro hk
      rcases List.mem_cons.mp ((h k).mp (List.mem_cons_of_mem _ hk)) with e | e
      · have := a1 k hk; omega
      · exact e
    · intro hk
      rcases List.mem_cons.mp ((h k).mpr (List.mem_cons_of_mem _ hk)) with e | e
      · have := b1 k hk; omega
      · exact e
theorem firstMet_mem (val : Nat → Int) (k : Int) : ∀ i, (firstMet val i).any (· == k) = true ↔ ∃ j, j < i ∧ val j = k
  | 0 => by simp [firstMet]
  | i + 1 => by
    rw [firstMet_succ, step_any, Bool.or_eq_true, firstMet_mem val k i, decide_eq_true_eq]
    constructor
    · rintro (⟨j, h1, h2⟩ | h)
      · exact ⟨j, by omega, h2⟩
      · exact ⟨i, by omega, h.symm⟩
    · rintro ⟨j, h1, h2⟩
      by_cases e : j = i
      · subst e; exact .inr h2.symm
      · exact .inl ⟨j, by omega, h2⟩
/-! ### the call -/
section
variable {X : Cx}
def tSset (K : PySem.W.Frag) (te : TE) : TE := fun σ H Q => te σ H fun x H1 => ∃ l ns, x = V.ref l ∧ SqL K H1 l (ns.map V.int) ∧ ns.length < 4000 ∧ ∀ p, H1 p = none → Q (.ref p) (upd H1 p (.lst ((ssetI ns).map V.int)))
theorem pe_sset {a : Expr} {ta : TE} {p p2 q pos : Pos} (hc : X.calm = true) (hg : Gl X "sorted") (hm : X.mg "sorted" = none) (hg2 : Gl X "set") (hm2 : X.mg "set" = none) (ha : PE X a ta)
    (na : starEach [a] X.env = (false, eval a X.env) :: starEach [] X.env) : PE X (.Call (.Name "sorted" p) [.Call (.Name "set" p2) [a] [] q] [] pos) (tSset X.K ta) := by
  refine ⟨fun pins s σ H Q I h => ?_⟩
  refine Call_ (ld_blt I hg hm boot_sorted ?_)
  refine PyProof.Rows.callWith_builtin1 (PyProof.Rows.args_cons ?_ rfl) rfl rfl
  refine Call_ (ld_blt I hg2 hm2 boot_set ?_)
  refine PyProof.Rows.callWith_type1 (PyProof.Rows.args_cons (thn (ha.run pins s σ H _ I h) fun v s1 ⟨x, H1, I1, r1, q1⟩ => PyProof.Rows.args_nil ?_) na) na rfl
  obtain ⟨l, ns, rfl, hq, h1, q1⟩ := q1
  cases r1
  obtain ⟨its, r, pl, hz⟩ := I1.list hq
  have hl : its.toArray.size = ns.length := by rw [List.size_toArray, ← r.length, List.length_map]
  refine set_of_list (I1.ok.hd hc) pl.isList (ns := ns) (by simpa using r.ints) (by rw [hl]; unfold scanBound; omega) fun h' tk hS hk => ?_
  rw [hl] at hS
  refine PyProof.Rows.args_nil ?_
  have I2 : L2.Inv X pins σ H1 { s1 with heap := h', toks := tk } := I1.kept fun b o e => hk b o (Heap.lt_size e) e
  refine sorted_big hS (I2.ok.hd hc) fun s' p out c ns' k g o hp hg hi hs hm hl => ?_
  have es : ns' = ssetI ns := asc_same hs (ssetI_asc ns) fun k => by
    rw [hm k, firstMet_mem, ssetI_mem]
    constructor
    · rintro ⟨j, h1, h2⟩
      rw [← h2]
      have : ns.getD j 0 = ns[j] := by simp [List.getD, List.getElem?_eq_getElem h1]
      show ns.getD j 0 ∈ ns
      rw [this]
      exact List.getElem_mem h1
    · intro hk
      obtain ⟨j, h1, h2⟩ := List.getElem_of_mem hk
      exact ⟨j, h1, by show ns.getD j 0 = k; simp [List.getD, List.getElem?_eq_getElem h1, h2]⟩
  subst es
  have hln : ∀ (val : Nat → Int) (i : Nat), (firstMet val i).length ≤ i := firstMet_length_le
  have hlen : ((ssetI ns).map V.int).length ≤ sizeLine := by
    rw [List.length_map, hl]
    have h3 := hln (fun i => ns.getD i 0) ns.length
    have h4 : (4096 : Nat) ≤ sizeLine := by decide
    omega
  have hp2 : s1.heap.objs.size ≤ p := Nat.le_trans (Nat.le_of_lt (SetR.lt hS)) hp
  have k2 : ∀ b u, s1.heap.get? b = some u → s'.heap.get? b = some u := fun b u e => k b u (hk b u (Heap.lt_size e) e)
  have hn : H1 p = none := I1.hok.fresh hp2
  have J : L2.Inv X pins σ (upd H1 p (.lst ((ssetI ns).map V.int))) { s1 with heap := s'.heap, gens := s'.gens, drawn := s'.drawn, toks := s'.toks } :=
    I1.call (ch := []) (Un.laid k2 hp2 hn) (I1.hok.laid k2 hp2 ⟨hlen, out, c, vals_of_ints hi, hg⟩) (by rw [g]; exact I1.bare) (fun _ z => nomatch z)
  have e : s' = { s1 with heap := s'.heap, gens := s'.gens, drawn := s'.drawn, toks := s'.toks } := by
    cases s'
    cases s1
    cases o
    rfl
  rw [e]
  exact ⟨.ref p, _, J, rfl, q1 p hn⟩
end
section
variable {Γ : Gm} {n : Nat} {N : List Str} {sc : Scope}
theorem snd_sset (F : Γ.Facts) {a : Expr} {p p2 pos pos2 : Pos} {f : Loc → Sto → Option (R D)} (ha : SndE Γ n N sc a f) (s1 : isStar a = false) (hg : isGlb (sc.names.lookup ("sorted" : Str)) = true) (hg2 : isGlb (sc.names.lookup ("set" : Str)) = true) :
    SndE Γ n N sc (.Call (.Name "sorted" p) [.Call (.Name "set" p2) [a] [] pos2] [] pos) (fun ρ S => bnd (bnd (f ρ S) fun d S1 => some (.ok [d] S1)) fun ds S1 => lift2 (biD S1 .sset ds)) := fun E => by
  obtain ⟨t, h1, h2⟩ := ha E
  refine ⟨tSset Γ.K t, fun X gd hx => ?_, ?_⟩
  · have hm : X.mg "sorted" = none := by rw [gd.mg]; exact F.free _ (by decide +kernel)
    have hm2 : X.mg "set" = none := by rw [gd.mg]; exact F.free _ (by decide +kernel)
    have z : PE X (.Call (.Name "sorted" p) [.Call (.Name "set" p2) [a] [] pos2] [] pos) (tSset X.K t) := pe_sset gd.calm (gd.gl hg) hm (gd.gl hg2) hm2 (h1 X gd hx) (star_cons s1)
    rw [gd.K] at z
    exact z
  · intro m H S ρ σ rr Q rel vo hf p
    dsimp only at hf
    cases q : f ρ S with
    | none => rw [q] at hf; cases hf
    | some r1 =>
      rw [q] at hf
      refine h2 m H S ρ σ r1 _ rel vo q ?_
      cases r1 with
      | ex c dv S1 => cases hf; exact p
      | ok d S1 =>
        intro v H1 m1 e1 rel1 hv
        have hf : (biD S1 .sset [d]).map (fun q => R.ok q.1 q.2) = some rr := hf
        obtain ⟨z, g1, g2⟩ := map_some hf
        subst g2
        cases d with
        | ref r =>
          obtain ⟨xs, g3, g4⟩ := bind_some (show (lstAt S1 r).bind (fun xs => (intsOf xs).bind fun is => if is.length < 4000 then some (D.ref S1.length, S1 ++ [.lst ((ssetI is).map .int)]) else none) = some z from g1)
          obtain ⟨is, g5, g6⟩ := bind_some g4
          obtain ⟨g7, g8⟩ := if_some g6
          subst g8
          obtain ⟨a0, ea, hm⟩ := hv
          obtain ⟨vs, g9, g10⟩ := rel1.lst hm (lstAt_some g3)
          have ev := ints_rel g10 g5
          subst ev
          refine ⟨a0, is, ea, SqL.of g9, g7, fun l hl => ?_⟩
          obtain ⟨a1, a2, a3⟩ := new_lst rel1 hl (VRs.ints (ssetI is))
          exact post_ok p (e1.trans a1) a2 a3
        | _ => cases g1
end
end Mi

end
section
set_option Elab.async false
set_option linter.all false
set_option maxRecDepth 100000
set_option maxHeartbeats 1000000
/-! What a loop or a comprehension walks. -/
namespace Mi
open PySem L2 PySem.Spec PyProof.Rows
/-- the iterator goes through these items, as long as the list that they lie in stays -/
def Walk (K : PySem.W.Frag) (J : It) (xs : List D) (g : Option Nat) (m : List Addr) (H : Hp) : Prop :=
  ∀ m' H' S', Ext K m H m' H' → Rel K m' S' H' → still g xs S' = true → ∀ i : Nat, (∀ d, xs[i]? = some d → J.go i H' ∧ ∀ x H'', J.yld i H' x H'' → H'' = H' ∧ VR K m' H' d x) ∧ (xs.length ≤ i → J.stop i H')
def PostI (K : PySem.W.Frag) (XR : List Addr → Hp → Value → Option Addr → Nat → D → Prop) (E : XK) (m : List Addr) (H : Hp) (r : R (List D × Option Nat)) (Q : It → Hp → Prop) : Prop := match r with
  | .ok a S' => ∀ J H' m', Ext K m H m' H' → Rel K m' S' H' → Walk K J a.1 a.2 m' H' → still a.2 a.1 S' = true → Q J H'
  | .ex c dv S' => PostX K XR E m H c dv S'
def RefI (K : PySem.W.Frag) (XR : List Addr → Hp → Value → Option Addr → Nat → D → Prop) (E : XK) (wi : TI) (f : Loc → Sto → Option (R (List D × Option Nat))) : Prop :=
  ∀ m H S ρ σ r Q, Rel K m S H → VO K m H ρ σ → f ρ S = some r → PostI K XR E m H r Q → wi σ H Q
section
variable {X : Cx} {tg : Expr}
def iSeq (K : PySem.W.Frag) (tl : TE) : TI := fun σ H R => tl σ H fun x H1 => ∃ a, x = .ref a ∧ (((∃ xs, SqL K H1 a xs) ∧ R (Itl K a) H1) ∨ ((∃ xs, SqT K H1 a xs) ∧ R (Itt K a) H1))
theorem pi_seq {l : Expr} {tl : TE} (hl : PE X l tl) : PI X tg l (iSeq X.K tl) := by
  refine ⟨fun pins s σ H R I h => ?_⟩
  refine thn (hl.run pins s σ H _ I h) fun v s1 ⟨x, H1, I1, r1, q1⟩ => ?_
  obtain ⟨a, e, q⟩ := q1
  subst e
  cases r1
  rcases q with ⟨⟨xs, hq⟩, q⟩ | ⟨⟨xs, hq⟩, q⟩
  · obtain ⟨its, rv, p, hz⟩ := I1.list hq
    exact wpAny_pyIter_list p.isList (pi_one (tk := s1.toks) I1 _ (turn_list a _) ⟨_, Heap.get?_push_size _ rfl, rfl, rfl⟩ q)
  · obtain ⟨its, rv, p, hz⟩ := I1.tuple hq
    exact wpAny_pyIter_tuple (show s1.heap.IsTuple a its.toArray from p) (pi_one (tk := s1.toks) I1 _ (turn_tuple a _) ⟨_, Heap.get?_push_size _ rfl, rfl, rfl⟩ q)
end
section
variable {K : PySem.W.Frag} {m : List Addr} {H : Hp} {S : Sto}
theorem walk_r1 (a b : Int) : Walk K (Itr a (b - a).toNat) (rgD a b) none m H := by
  intro m' H' S' e rel hs i
  have hl : (rgD a b).length = (b - a).toNat := by unfold rgD; simp
  refine ⟨fun d hd => ?_, fun h => by rw [hl] at h; exact h⟩
  have hi : i < (b - a).toNat := by rw [← hl]; exact (List.getElem?_eq_some_iff.mp hd).1
  have e1 : d = .int (a + (i : Int)) := by
    unfold rgD at hd
    rw [List.getElem?_map, List.getElem?_range hi] at hd
    cases hd; rfl
  subst e1
  exact ⟨hi, fun x H'' y => ⟨y.1, y.2⟩⟩
theorem walk_rc (a c : Int) (n : Nat) : Walk K (Itc a c n) ((List.range n).map fun (i : Nat) => D.int (a + (i : Int) * c)) none m H := by
  intro m' H' S' e rel hs i
  refine ⟨fun d hd => ?_, fun h => (show n ≤ i by simpa using h)⟩
  have hi : i < n := by simpa using (List.getElem?_eq_some_iff.mp hd).1
  have e1 : d = .int (a + (i : Int) * c) := by
    rw [List.getElem?_map, List.getElem?_range hi] at hd
    cases hd; rfl
  subst e1
  exact ⟨hi, fun x H'' y => ⟨y.1, y.2⟩⟩
theorem walk_l {a : Addr} {xs : List D} {g : Option Nat} (h : ∀ m' H' S', Ext K m H m' H' → Rel K m' S' H' → still g xs S' = true → ∃ vs, SqL K H' a vs ∧ VRs K m' H' xs vs) : Walk K (Itl K a) xs g m H := by
  intro m' H' S' e rel hs i
  obtain ⟨vs, h1, h2⟩ := h m' H' S' e rel hs
  refine ⟨fun d hd => ?_, fun hi => ⟨vs, h1, by rw [h2.length]; exact hi⟩⟩
  obtain ⟨v, h3, h4⟩ := h2.get hd
  refine ⟨⟨vs, v, h1, h3⟩, fun x H'' y => ⟨y.1, ?_⟩⟩
  have z := y.2 vs h1
  rw [h3] at z
  cases z
  exact h4
theorem walk_t {a : Addr} {xs : List D} {g : Option Nat} {vs : List V} (h1 : SqT K H a vs) (h2 : VRs K m H xs vs) : Walk K (Itt K a) xs g m H := by
  intro m' H' S' e rel hs i
  have h1 := e.tup a vs h1
  have h2 := VRs.mono e _ _ h2
  refine ⟨fun d hd => ?_, fun hi => ⟨vs, h1, by rw [h2.length]; exact hi⟩⟩
  obtain ⟨v, h3, h4⟩ := h2.get hd
  refine ⟨⟨vs, v, h1, h3⟩, fun x H'' y => ⟨y.1, ?_⟩⟩
  have z := y.2 vs h1
  rw [h3] at z
  cases z
  exact h4
theorem still_refl {r : Nat} {xs : List D} {S : Sto} (h : lstAt S r = some xs) : still (some r) xs S = true := by
  show (match lstAt S r with
    | some ys => D.beqs xs ys
    | none => false) = true
  rw [h]
  exact D.beqs_refl xs
theorem still_some {r : Nat} {xs : List D} {S : Sto} (h : still (some r) xs S = true) : lstAt S r = some xs := by
  have h : (match lstAt S r with
    | some ys => D.beqs xs ys
    | none => false) = true := h
  split at h
  · rename_i ys q
    rw [q, D.beqs_eq _ _ h]
  · cases h
theorem ref_seq {XR : List Addr → Hp → Value → Option Addr → Nat → D → Prop} {E : XK} {t : TE} {f : Loc → Sto → Option (R D)} (h : RefE K XR E t f) :
    RefI K XR E (iSeq K t) (fun ρ S => bnd (bnd (f ρ S) fun d S1 => some (.ok [d] S1)) fun ds S1 => (itD S1 .seq ds).map fun q => .ok q S1) := by
  intro m H S ρ σ rr Q rel vo hf p
  dsimp only at hf
  cases q : f ρ S with
  | none => rw [q] at hf; cases hf
  | some r1 =>
    refine h m H S ρ σ r1 _ rel vo q ?_
    rw [q] at hf
    cases r1 with
    | ex c dv S1 => cases hf; exact p
    | ok d S1 =>
      intro v H1 m1 e1 rel1 hv
      have hf : (itD S1 .seq [d]).map (fun q => R.ok q S1) = some rr := hf
      obtain ⟨w, g1, g2⟩ := map_some hf
      subst g2
      cases d with
      | tup ds =>
        cases g1
        obtain ⟨a, xs, e2, h1, h2⟩ := hv
        exact ⟨a, e2, .inr ⟨⟨xs, h1⟩, p _ H1 m1 e1 rel1 (walk_t h1 h2) rfl⟩⟩
      | frz ds =>
        cases g1
        obtain ⟨a, xs, e2, h1, h2⟩ := hv
        exact ⟨a, e2, .inl ⟨⟨xs, h1.sql⟩, p _ H1 m1 e1 rel1 (walk_l fun m' H' S' e rel' hs => ⟨xs, (e.fz a xs h1).sql, VRs.mono e _ _ h2⟩) rfl⟩⟩
      | ref n =>
        obtain ⟨ds, g3, g4⟩ := map_some (show (lstAt S1 n).map (fun xs => (xs, some n)) = some w from g1)
        subst g4
        obtain ⟨a, e2, h1⟩ := hv
        obtain ⟨xs, h2, h3⟩ := rel1.lst h1 (lstAt_some g3)
        refine ⟨a, e2, .inl ⟨⟨xs, SqL.of h2⟩, p _ H1 m1 e1 rel1 (walk_l fun m' H' S' e rel' hs => ?_) (still_refl g3)⟩⟩
        obtain ⟨ys, h4, h5⟩ := rel'.lst (e.pre n a h1) (lstAt_some (still_some hs))
        exact ⟨ys, SqL.of h4, h5⟩
      | _ => cases g1
theorem ref_rng1 {XR : List Addr → Hp → Value → Option Addr → Nat → D → Prop} {E : XK} {t : TA} {f : Loc → Sto → Option (R (List D))} (h : RefA K XR E t f) :
    RefI K XR E (iRng1 t) (fun ρ S => bnd (f ρ S) fun ds S1 => (itD S1 .rng1 ds).map fun q => .ok q S1) := by
  intro m H S ρ σ rr Q rel vo hf p
  dsimp only at hf
  cases q : f ρ S with
  | none => rw [q] at hf; cases hf
  | some r1 =>
    refine h m H S ρ σ r1 _ rel vo q ?_
    rw [q] at hf
    cases r1 with
    | ex c dv S1 => cases hf; exact p
    | ok ds S1 =>
      intro vs H1 m1 e1 rel1 hv
      have hf : (itD S1 .rng1 ds).map (fun q => R.ok q S1) = some rr := hf
      obtain ⟨w, g1, g2⟩ := map_some hf
      subst g2
      match ds, g1, hv with
      | [.int b], g1, hv =>
        obtain ⟨v, e2, h1⟩ := hv.one
        have h1 : v = .int b := h1
        subst h1 e2
        obtain ⟨g3, g4⟩ := if_some (show (if -(2 ^ 62) ≤ b ∧ b < 2 ^ 62 then some (rgD 0 b, (none : Option Nat)) else none) = some w from g1)
        subst g4
        refine ⟨b, rfl, g3.1, g3.2, p _ H1 m1 e1 rel1 ?_ rfl⟩
        have z := walk_r1 (K := K) (m := m1) (H := H1) 0 b
        rw [Int.sub_zero] at z
        exact z
theorem ref_rng2 {XR : List Addr → Hp → Value → Option Addr → Nat → D → Prop} {E : XK} {t : TA} {f : Loc → Sto → Option (R (List D))} (h : RefA K XR E t f) :
    RefI K XR E (iRng2 t) (fun ρ S => bnd (f ρ S) fun ds S1 => (itD S1 .rng2 ds).map fun q => .ok q S1) := by
  intro m H S ρ σ rr Q rel vo hf p
  dsimp only at hf
  cases q : f ρ S with
  | none => rw [q] at hf; cases hf
  | some r1 =>
    refine h m H S ρ σ r1 _ rel vo q ?_
    rw [q] at hf
    cases r1 with
    | ex c dv S1 => cases hf; exact p
    | ok ds S1 =>
      intro vs H1 m1 e1 rel1 hv
      have hf : (itD S1 .rng2 ds).map (fun q => R.ok q S1) = some rr := hf
      obtain ⟨w, g1, g2⟩ := map_some hf
      subst g2
      match ds, g1, hv with
      | [.int a, .int b], g1, hv =>
        obtain ⟨v, v2, e2, h1, h2⟩ := hv.two
        have h1 : v = .int a := h1
        have h2 : v2 = .int b := h2
        subst h1 h2 e2
        obtain ⟨g3, g4⟩ := if_some (show (if -(2 ^ 62) ≤ a ∧ a < 2 ^ 62 ∧ -(2 ^ 62) ≤ b ∧ b < 2 ^ 62 then some (rgD a b, (none : Option Nat)) else none) = some w from g1)
        subst g4
        exact ⟨a, b, rfl, g3, p _ H1 m1 e1 rel1 (walk_r1 a b) rfl⟩
theorem rgc_of {a b c : Int} {n : Nat} (h : rngN a b c = some n) : RgC a b c n := by
  obtain ⟨⟨c0, a1, a2, b1, b2, c2⟩, e⟩ := if_some h
  subst e
  have hn : Builtin.Range.rangeSize a b c = (((b - a + c - 1) / c).toNat : Int) := by
    unfold Builtin.Range.rangeSize
    rw [if_pos (by omega)]
    by_cases hab : a < b
    · rw [if_pos hab]
      have e1 : b - a + c - 1 = (b - a - 1) + c := by omega
      have e2 : (b - a + c - 1) / c = (b - a - 1) / c + 1 := by
        rw [e1, Int.add_ediv_of_dvd_right (Int.dvd_refl c), Int.ediv_self (by omega)]
      have e3 : 0 ≤ (b - a - 1) / c := Int.ediv_nonneg (by omega) (by omega)
      rw [e2]
      omega
    · rw [if_neg hab]
      have e1 : (b - a + c - 1) / c ≤ 0 := by
        have : (b - a + c - 1) / c < 1 := Int.ediv_lt_of_lt_mul (by omega) (by omega)
        omega
      omega
  refine ⟨by omega, by omega, ?_, hn⟩
  have e4 : ((b - a + c - 1) / c) ≤ 2 ^ 63 - 1 ∧ -1 < ((b - a + c - 1) / c) + 2 ^ 63 := by
    constructor
    · by_cases z : 1 ≤ b - a
      · have h1 : 0 ≤ (b - a - 1) * (c - 1) := Int.mul_nonneg (by omega) (by omega)
        have h2 : (b - a - 1) * (c - 1) = (b - a) * c - (b - a + c - 1) := by
          rw [Int.sub_mul, Int.mul_sub]
          omega
        have h3 : (b - a + c - 1) / c ≤ b - a := Int.ediv_le_of_le_mul c0 (by omega)
        omega
      · have : (b - a + c - 1) / c < 1 := Int.ediv_lt_of_lt_mul (by omega) (by omega)
        omega
    · have : -(2 ^ 63) ≤ (b - a + c - 1) / c := by
        rw [Int.le_ediv_iff_mul_le c0]
        have : (2 ^ 63 : Int) * 1 ≤ 2 ^ 63 * c := Int.mul_le_mul_of_nonneg_left (by omega) (by decide)
        omega
      omega
  unfold Builtin.Range.small
  rw [hn]
  unfold Builtin.Range.rangeFitsLong
  simp only [Bool.and_eq_true, Bool.or_eq_true, decide_eq_true_eq, beq_iff_eq]
  have : c > 0 := by omega
  simp only [this, if_true]
  refine ⟨?_, ?_⟩
  all_goals first | omega | (simp; omega)
theorem ref_rng3 {XR : List Addr → Hp → Value → Option Addr → Nat → D → Prop} {E : XK} {t : TA} {f : Loc → Sto → Option (R (List D))} (h : RefA K XR E t f) :
    RefI K XR E (iRng3 t) (fun ρ S => bnd (f ρ S) fun ds S1 => (itD S1 .rng3 ds).map fun q => .ok q S1) := by
  intro m H S ρ σ rr Q rel vo hf p
  dsimp only at hf
  cases q : f ρ S with
  | none => rw [q] at hf; cases hf
  | some r1 =>
    refine h m H S ρ σ r1 _ rel vo q ?_
    rw [q] at hf
    cases r1 with
    | ex c dv S1 => cases hf; exact p
    | ok ds S1 =>
      intro vs H1 m1 e1 rel1 hv
      have hf : (itD S1 .rng3 ds).map (fun q => R.ok q S1) = some rr := hf
      obtain ⟨w, g1, g2⟩ := map_some hf
      subst g2
      match ds, g1, hv with
      | [.int a, .int b, .int c], g1, hv =>
        obtain ⟨v, v2, v3, e2, h1, h2, h3⟩ := hv.three
        have h1 : v = .int a := h1
        have h2 : v2 = .int b := h2
        have h3 : v3 = .int c := h3
        subst h1 h2 h3 e2
        obtain ⟨n, g3, g4⟩ := map_some (show (rngN a b c).map (fun n => ((List.range n).map fun (i : Nat) => D.int (a + (i : Int) * c), (none : Option Nat))) = some w from g1)
        subst g4
        exact ⟨a, b, c, n, rfl, rgc_of g3, p _ H1 m1 e1 rel1 (walk_rc a c n) rfl⟩
end
section
variable {Γ : Gm} {n : Nat} {N : List Str} {sc : Scope} {X : Cx}
/-- what is walked, shown -/
def SndI (Γ : Gm) (n : Nat) (N : List Str) (sc : Scope) (pe : Expr) (f : Loc → Sto → Option (R (List D × Option Nat))) : Prop := ∀ E : XK, ∃ t, (∀ X tg, Good Γ n N sc X → Passes (L2.CX Γ.P Γ.w) X E → PI X tg pe t) ∧ RefI Γ.K Γ.XR E t f
theorem snd_seq {pe : Expr} {f : Loc → Sto → Option (R D)} (h : SndE Γ n N sc pe f) : SndI Γ n N sc pe (fun ρ S => bnd (bnd (f ρ S) fun d S1 => some (.ok [d] S1)) fun ds S1 => (itD S1 .seq ds).map fun q => .ok q S1) := fun E => by
  obtain ⟨t, h1, h2⟩ := h E
  refine ⟨iSeq Γ.K t, fun X tg gd hx => ?_, ref_seq h2⟩
  have z := pi_seq (tg := tg) (h1 X gd hx)
  rw [gd.K] at z
  exact z
theorem snd_irng1 (F : Γ.Facts) {a : Expr} {p pos : Pos} {f : Loc → Sto → Option (R (List D))} (ha : SndA Γ n N sc [a] f) (s1 : isStar a = false) (hg : isGlb (sc.names.lookup ("range" : Str)) = true) :
    SndI Γ n N sc (.Call (.Name "range" p) [a] [] pos) (fun ρ S => bnd (f ρ S) fun ds S1 => (itD S1 .rng1 ds).map fun q => .ok q S1) := fun E => by
  obtain ⟨t, h1, h2⟩ := ha E
  refine ⟨iRng1 t, fun X tg gd hx => ?_, ref_rng1 h2⟩
  have hm : X.mg "range" = none := by rw [gd.mg]; exact F.free _ (by decide +kernel)
  exact pi_range1 (gd.gl hg) hm (h1 X gd hx) (star_cons s1)
theorem snd_irng2 (F : Γ.Facts) {a b : Expr} {p pos : Pos} {f : Loc → Sto → Option (R (List D))} (ha : SndA Γ n N sc [a, b] f) (s1 : isStar a = false) (s2 : isStar b = false) (hg : isGlb (sc.names.lookup ("range" : Str)) = true) :
    SndI Γ n N sc (.Call (.Name "range" p) [a, b] [] pos) (fun ρ S => bnd (f ρ S) fun ds S1 => (itD S1 .rng2 ds).map fun q => .ok q S1) := fun E => by
  obtain ⟨t, h1, h2⟩ := ha E
  refine ⟨iRng2 t, fun X tg gd hx => ?_, ref_rng2 h2⟩
  have hm : X.mg "range" = none := by rw [gd.mg]; exact F.free _ (by decide +kernel)
  exact pi_range2 (gd.gl hg) hm (h1 X gd hx) ((star_cons s1).trans (by rw [star_cons s2]; rfl)) ((star_cons s2).trans rfl)
theorem snd_irng3 (F : Γ.Facts) {a b c : Expr} {p pos : Pos} {f : Loc → Sto → Option (R (List D))} (ha : SndA Γ n N sc [a, b, c] f) (s1 : isStar a = false) (s2 : isStar b = false) (s3 : isStar c = false) (hg : isGlb (sc.names.lookup ("range" : Str)) = true) :
    SndI Γ n N sc (.Call (.Name "range" p) [a, b, c] [] pos) (fun ρ S => bnd (f ρ S) fun ds S1 => (itD S1 .rng3 ds).map fun q => .ok q S1) := fun E => by
  obtain ⟨t, h1, h2⟩ := ha E
  refine ⟨iRng3 t, fun X tg gd hx => ?_, ref_rng3 h2⟩
  have hm : X.mg "range" = none := by rw [gd.mg]; exact F.free _ (by decide +kernel)
  refine pi_range3 (gd.gl hg) hm (h1 X gd hx) (star_cons s1) (star_any fun y hy => ?_)
  rcases List.mem_cons.mp hy with z | z
  · rw [z]; exact s2
  · have : y = c := by simpa using z
    rw [this]; exact s3
end
end Mi

end
section
set_option Elab.async false
set_option linter.all false
set_option maxRecDepth 100000
set_option maxHeartbeats 1000000
/-! Comprehensions. -/
namespace Mi
open PySem L2 PySem.Spec PyProof.Rows
section
variable {K : PySem.W.Frag} {m : List Addr} {H : Hp} {S : Sto} {ρ : Loc} {σ : L2.St}
theorem VO.put (h : VO K m H ρ σ) {d : D} {v : V} (r : VR K m H d v) (i : Nat) : VO K m H (ρ.set i (some d)) (σ.set i (some v)) := by
  refine ⟨by rw [List.length_set, List.length_set]; exact h.len, fun j e q => ?_⟩
  by_cases hj : i = j
  · subst hj
    have hl : i < ρ.length := by
      have := (List.getElem?_eq_some_iff.mp q).1
      simpa using this
    rw [List.getElem?_set_self hl] at q
    cases q
    exact ⟨v, List.getElem?_set_self (by rw [← h.len]; exact hl), r⟩
  · rw [List.getElem?_set_ne hj] at q
    obtain ⟨w, h1, h2⟩ := h.at_ j e q
    exact ⟨w, by rw [List.getElem?_set_ne hj]; exact h1, h2⟩
theorem VO.gone (h : VO K m H ρ σ) (i : Nat) : VO K m H (ρ.set i none) (σ.set i none) := by
  refine ⟨by rw [List.length_set, List.length_set]; exact h.len, fun j e q => ?_⟩
  by_cases hj : i = j
  · subst hj
    have hl : i < ρ.length := by
      have := (List.getElem?_eq_some_iff.mp q).1
      simpa using this
    rw [List.getElem?_set_self hl] at q
    cases q
  · rw [List.getElem?_set_ne hj] at q
    obtain ⟨w, h1, h2⟩ := h.at_ j e q
    exact ⟨w, by rw [List.getElem?_set_ne hj]; exact h1, h2⟩
theorem VO.wiped (h : VO K m H ρ σ) : ∀ vs : List Nat, VO K m H (wipeD ρ vs) (wipe σ vs)
  | [] => h
  | v :: vs => (VO.wiped h vs).gone v
theorem wipe_get (σ : L2.St) (j : Nat) : ∀ vs : List Nat, (wipe σ vs)[j]? = if j ∈ vs then (σ[j]?).map (fun _ => none) else σ[j]?
  | [] => by simp [wipe]
  | v :: vs => by
    have ih := wipe_get σ j vs
    show ((wipe σ vs).set v none)[j]? = _
    by_cases hj : v = j
    · subst hj
      rw [if_pos List.mem_cons_self, List.getElem?_set]
      rw [if_pos rfl, wipe_length]
      by_cases hl : v < σ.length
      · rw [if_pos hl, List.getElem?_eq_getElem hl]; rfl
      · rw [if_neg hl, List.getElem?_eq_none (by omega)]; rfl
    · rw [List.getElem?_set_ne hj, ih]
      by_cases hm : j ∈ vs
      · rw [if_pos hm, if_pos (List.mem_cons_of_mem _ hm)]
      · rw [if_neg hm, if_neg fun z => (List.mem_cons.mp z).elim (fun e => hj e.symm) hm]
theorem wipe_put {vs : List Nat} {i : Nat} (hi : i ∈ vs) (x : Option V) : wipe ((wipe σ vs).set i x) vs = wipe σ vs := by
  refine List.ext_getElem? fun j => ?_
  rw [wipe_get, wipe_get]
  by_cases hm : j ∈ vs
  · rw [if_pos hm, if_pos hm, List.getElem?_set]
    by_cases hj : i = j
    · subst hj
      rw [if_pos rfl, wipe_length]
      by_cases hl : i < σ.length
      · rw [if_pos hl, List.getElem?_eq_getElem hl]; rfl
      · rw [if_neg hl, List.getElem?_eq_none (by omega)]
    · rw [if_neg hj, wipe_get, if_pos hm]
      cases σ[j]? <;> rfl
  · rw [if_neg hm, if_neg hm, List.getElem?_set_ne (fun e => by subst e; exact hm hi), wipe_get, if_neg hm]
/-- an own list that grows -/
theorem own_grow {p : Addr} {u w : HO} (rel : Rel K m S H) (h : H p = some w) (np : p ∉ m) (h1 : ∀ xs, w ≠ .tup xs) (h2 : ∀ ob x, w ≠ .frz ob x) : Ex0 K m H m (upd H p u) ∧ Rel K m S (upd H p u) := by
  have e : Ex0 K m H m (upd H p u) := by
    have z := ex0_upd (K := K) (m := m) (u := u) h h1 h2
    exact ⟨fun _ _ q => q, z.tup, z.fz⟩
  exact ⟨e, rel.len, rel.inj, fun n a o g1 g2 => OR.mono0 e (upd_ne fun z => np (z ▸ List.mem_of_getElem? g1)) (rel.obj n a o g1 g2)⟩
end
theorem if_some' {α : Type} {c : Prop} [Decidable c] {x : Option α} {y : α} (h : (if c then x else none) = some y) : c ∧ x = some y := by
  split at h
  · rename_i z; exact ⟨z, h⟩
  · cases h
abbrev E0 : XK := fun _ _ _ => False
theorem pass_blk {P : Program} {w : World} {X : Cx} : Passes (L2.CX P w) X E0 := by
  intro pins σ H s e s' I c
  obtain ⟨_, _, _, _, _, _, _, _, _, _, _, _, z⟩ := c
  exact z.elim
/-- what a target does -/
def RefG (K : PySem.W.Frag) (g : TG) (t : Tg) : Prop := ∀ m H S ρ σ d v ρ' (Q : L2.St → Hp → Prop), Rel K m S H → VO K m H ρ σ → VR K m H d v → setT ρ t d = some ρ' →
  (∀ σ', VO K m H ρ' σ' → (∀ vs : List Nat, (∀ i ∈ t.ix, i ∈ vs) → wipe σ' vs = wipe σ vs) → Q σ' H) → g v σ H Q
theorem wipe_set {σ : L2.St} {vs : List Nat} {i : Nat} (hi : i ∈ vs) (x : Option V) : wipe (σ.set i x) vs = wipe σ vs := by
  refine List.ext_getElem? fun j => ?_
  rw [wipe_get, wipe_get]
  by_cases hm : j ∈ vs
  · rw [if_pos hm, if_pos hm, List.getElem?_set]
    by_cases hj : i = j
    · subst hj
      rw [if_pos rfl]
      by_cases hl : i < σ.length
      · rw [if_pos hl, List.getElem?_eq_getElem hl]; rfl
      · rw [if_neg hl, List.getElem?_eq_none (by omega)]
    · rw [if_neg hj]
  · rw [if_neg hm, if_neg hm, List.getElem?_set_ne (fun e => by subst e; exact hm hi)]
theorem wipe_wipe {σ : L2.St} (vs : List Nat) : wipe (wipe σ vs) vs = wipe σ vs := by
  refine List.ext_getElem? fun j => ?_
  rw [wipe_get, wipe_get]
  by_cases hm : j ∈ vs
  · rw [if_pos hm, if_pos hm]
    cases σ[j]? <;> rfl
  · rw [if_neg hm, if_neg hm]
theorem refG_one {K : PySem.W.Frag} {i : Nat} : RefG K (gName i) (.one i) := by
  intro m H S ρ σ d v ρ' Q rel vo hv h q
  have h : some (ρ.set i (some d)) = some ρ' := h
  cases h
  exact q _ (vo.put hv i) fun vs hi => wipe_set (hi i List.mem_cons_self) _
def gNames : List Nat → TGs
  | [] => gNil
  | i :: is => gCons (gName i) (gNames is)
theorem refG_names {K : PySem.W.Frag} {m : List Addr} {H : Hp} : ∀ {is : List Nat} {ds : List D} {vs : List V} {ρ : Loc} {σ : L2.St} {Q : L2.St → Hp → Prop}, VO K m H ρ σ → VRs K m H ds vs → ds.length = is.length →
    (∀ σ', VO K m H (setAll ρ is ds) σ' → (∀ ws : List Nat, (∀ i ∈ is, i ∈ ws) → wipe σ' ws = wipe σ ws) → Q σ' H) → gNames is vs σ H Q
  | [], [], vs, ρ, σ, Q, vo, hv, hl, q => ⟨hv, q _ vo fun _ _ => rfl⟩
  | [], _ :: _, vs, ρ, σ, Q, vo, hv, hl, q => by simp at hl
  | _ :: _, [], vs, ρ, σ, Q, vo, hv, hl, q => by simp at hl
  | i :: is, d :: ds, vs, ρ, σ, Q, vo, hv, hl, q => by
    obtain ⟨v, ws, e, h1, h2⟩ := hv
    refine ⟨v, ws, e, ?_⟩
    show gNames is ws (σ.set i (some v)) H Q
    refine refG_names (vo.put h1 i) h2 (by simpa using hl) fun σ' vo' hw => q σ' vo' fun zs hz => ?_
    rw [hw zs fun j hj => hz j (List.mem_cons_of_mem _ hj), wipe_set (hz i List.mem_cons_self)]
theorem refG_tup {K : PySem.W.Frag} {is : List Nat} : RefG K (gTup K is.length (gNames is)) (.tup is) := by
  intro m H S ρ σ d v ρ' Q rel vo hv h q
  cases d with
  | tup xs =>
    obtain ⟨hl, h⟩ := if_some (show (if xs.length = is.length then some (setAll ρ is xs) else none) = some ρ' from h)
    subst h
    obtain ⟨a, ws, e, h1, h2⟩ := hv
    exact ⟨a, ws, e, h1, by rw [h2.length]; exact hl, refG_names vo h2 hl q⟩
  | _ => cases h
theorem ref_lc {K : PySem.W.Frag} {XR : List Addr → Hp → Value → Option Addr → Nat → D → Prop} {E : XK} {wi : TI} {tt : TT} {te : TE} {vs : List Nat} {tgt : Tg} {g0 : TG} {fi : Loc → Sto → Option (R (List D × Option Nat))} {fc : Loc → Sto → Option (R Bool)} {fe : Loc → Sto → Option (R D)}
    (hi : RefI K XR E wi fi) (ht : RefT K XR E0 tt fc) (he : RefE K XR E0 te fe) (hg0 : RefG K g0 tgt) (iv : ∀ i ∈ tgt.ix, i ∈ vs) :
    RefE K XR E (tLc wi g0 tt te vs) (fun ρ S => bnd (fi ρ S) fun q S1 => bnd (noX (compGo (fun y S2 => (setT (wipeD ρ vs) tgt y).bind fun ρ' => fc ρ' S2) (fun y S2 => (setT (wipeD ρ vs) tgt y).bind fun ρ' => fe ρ' S2) (still q.2 q.1) q.1 S1)) fun ys S3 =>
      if ys.length ≤ sizeLine then some (.ok (.ref S3.length) (S3 ++ [.lst ys])) else none) := by
  intro m H S ρ σ rr Q rel vo hf p
  dsimp only at hf
  cases q : fi ρ S with
  | none => rw [q] at hf; cases hf
  | some r1 =>
    refine hi m H S ρ σ r1 _ rel vo q ?_
    rw [q] at hf
    cases r1 with
    | ex c dv S1 => cases hf; exact p
    | ok a S1 =>
      obtain ⟨xs, g⟩ := a
      intro J H1 m1 e1 rel1 wk st Dd hD
      rw [bnd_ok] at hf
      dsimp only at hf
      generalize hcg : compGo (fun y S2 => (setT (wipeD ρ vs) tgt y).bind fun ρ' => fc ρ' S2) (fun y S2 => (setT (wipeD ρ vs) tgt y).bind fun ρ' => fe ρ' S2) (still g xs) = cg at hf
      cases qc : cg xs S1 with
      | none => rw [qc] at hf; cases hf
      | some r2 =>
        rw [qc] at hf
        cases r2 with
        | ex c dv S2 => cases hf
        | ok ys S3 =>
          have hf : (if ys.length ≤ sizeLine then some (R.ok (D.ref S3.length) (S3 ++ [.lst ys])) else none) = some rr := hf
          obtain ⟨hz, hf⟩ := if_some hf
          subst hf
          refine ⟨fun j k H' => k = xs.length - j ∧ j ≤ xs.length ∧ ∃ m' S' ds ws, Ext K m1 H1 m' H' ∧ Rel K m' S' H' ∧ H' Dd = some (.lst ws) ∧ Dd ∉ m' ∧ VRs K m' H' ds ws ∧ still g xs S' = true ∧ ∃ rest, cg (xs.drop j) S' = some (.ok rest S3) ∧ ds ++ rest = ys, ⟨xs.length, ?_⟩, ?_⟩
          · have e := Ext.new (o := .lst []) rel1 hD [] (by simp)
            rw [List.append_nil] at e
            exact ⟨by simp, Nat.zero_le _, m1, S1, [], [], e, ⟨rel1.len, rel1.inj, fun n a o g1 g2 => OR.mono e (upd_ne fun z => rel1.fresh hD (z ▸ List.mem_of_getElem? g1)) (rel1.obj n a o g1 g2)⟩, upd_same, rel1.fresh hD, VRs.nil, st, ys, qc, rfl⟩
          · rintro j k H' ⟨rfl, hj, m', S', ds, ws, e, rel', hDd, nD, hv, st', rest, hr, hys⟩
            have w := wk m' H' S' e rel' st' j
            by_cases hlt : j < xs.length
            · refine .inr ⟨(w.1 _ (List.getElem?_eq_getElem hlt)).1, fun H'' => j + 1 ≤ xs.length ∧ ∃ m' S' ds ws, Ext K m1 H1 m' H'' ∧ Rel K m' S' H'' ∧ H'' Dd = some (.lst ws) ∧ Dd ∉ m' ∧ VRs K m' H'' ds ws ∧ still g xs S' = true ∧ ∃ rest, cg (xs.drop (j + 1)) S' = some (.ok rest S3) ∧ ds ++ rest = ys, fun H'' z => ⟨xs.length - (j + 1), by omega, rfl, z⟩, fun x H'' y => ?_⟩
              obtain ⟨e2, hx⟩ := (w.1 _ (List.getElem?_eq_getElem hlt)).2 x H'' y
              subst e2
              rw [List.drop_eq_getElem_cons hlt, ← hcg, compGo, hcg] at hr
              cases qs : setT (wipeD ρ vs) tgt xs[j] with
              | none => rw [qs] at hr; cases hr
              | some ρ2 =>
              rw [qs] at hr
              simp only [Option.bind_some] at hr
              refine hg0 m' H'' S' _ _ _ _ ρ2 _ rel' (((vo.mono e1).mono e).wiped vs) hx qs fun σ2 vo' hw => ?_
              refine ⟨(hw vs iv).trans (wipe_wipe vs), ?_⟩
              cases q1 : fc ρ2 S' with
              | none => rw [q1] at hr; cases hr
              | some r3 =>
                rw [q1] at hr
                cases r3 with
                | ex c dv S4 => cases hr
                | ok b S4 =>
                  refine ht m' H'' S' _ _ _ _ rel' vo' q1 ?_
                  intro b' H3 m3 e3 rel3 hb
                  have hb : b' = b := hb
                  subst hb
                  obtain ⟨hD3, nD3⟩ := e3.frm Dd _ hDd nD
                  rw [bnd_ok] at hr
                  cases b' with
                  | false =>
                    rw [if_neg Bool.false_ne_true] at hr ⊢
                    obtain ⟨st3, hr⟩ := if_some' hr
                    exact ⟨hlt, m3, S4, ds, ws, e.trans e3, rel3, hD3, nD3, VRs.mono e3 _ _ hv, st3, rest, hr, hys⟩
                  | true =>
                    rw [if_pos rfl] at hr ⊢
                    cases q2 : fe ρ2 S4 with
                    | none => rw [q2] at hr; cases hr
                    | some r4 =>
                      rw [q2] at hr
                      cases r4 with
                      | ex c dv S5 => cases hr
                      | ok d S5 =>
                        refine he m3 H3 S4 _ _ _ _ rel3 (vo'.mono e3) q2 ?_
                        intro y H4 m4 e4 rel4 hy
                        obtain ⟨hD4, nD4⟩ := e4.frm Dd _ hD3 nD3
                        rw [bnd_ok] at hr
                        obtain ⟨st4, hr⟩ := if_some' hr
                        cases q3 : cg (xs.drop (j + 1)) S5 with
                        | none => rw [q3] at hr; cases hr
                        | some r5 =>
                          rw [q3] at hr
                          cases r5 with
                          | ex c dv S6 => cases hr
                          | ok rest' S6 =>
                            have hr : some (R.ok (d :: rest') S6) = some (R.ok rest S3) := hr
                            cases hr
                            have hl := hv.length
                            have hl2 : ds.length + (rest'.length + 1) = ys.length := by rw [← hys]; simp
                            have e34 := e3.trans e4
                            refine ⟨ws, hD4, by omega, ?_⟩
                            obtain ⟨x0, rel5⟩ := own_grow (u := .lst (ws ++ [y])) rel4 hD4 nD4 (fun _ z => nomatch z) (fun _ _ z => nomatch z)
                            have et := e.trans e34
                            refine ⟨hlt, m4, S5, ds ++ [d], ws ++ [y], ⟨⟨et.pre, fun a xs q => x0.tup a xs (et.tup a xs q), fun a xs q => x0.fz a xs (et.fz a xs q)⟩, fun a o q na => ?_⟩, rel5, upd_same, nD4, ?_, st4, rest', q3, by rw [← hys]; simp⟩
                            · obtain ⟨g1, g2⟩ := et.frm a o q na
                              exact ⟨by rw [upd_ne (fun z => by subst z; rw [hD] at q; cases q)]; exact g1, g2⟩
                            · exact VRs.mono0 x0 _ _ ((VRs.mono e34 _ _ hv).append (VRs.cons hy VRs.nil))
            · have ej : j = xs.length := by omega
              subst ej
              refine .inl ⟨w.2 (Nat.le_refl _), ?_⟩
              rw [List.drop_length, ← hcg, compGo] at hr
              cases hr
              rw [List.append_nil] at hys
              subst hys
              have eu : upd H' Dd (.lst ws) = H' := by
                funext b
                by_cases hb : b = Dd
                · subst hb; rw [upd_same]; exact hDd.symm
                · rw [upd_ne hb]
              have x0 := ex0_upd (K := K) (m := m') (u := .lst ws) hDd (fun _ z => nomatch z) (fun _ _ z => nomatch z)
              rw [eu] at x0
              have hA : Rel K (m' ++ [Dd]) (S3 ++ [.lst ds]) H' := by
                have z := rel'.adopt (u := .lst ws) (o := .lst ds) nD (by rw [eu]; exact x0) ⟨ws, upd_same, by rw [eu]; exact VRs.mono0 x0 _ _ hv⟩
                rw [eu] at z
                exact z
              refine p (.ref Dd) H' (m' ++ [Dd]) (e1.trans ⟨⟨fun a b q => x0.pre a b (e.pre a b q), fun a b q => x0.tup a b (e.tup a b q), fun a b q => x0.fz a b (e.fz a b q)⟩, fun a o q na => ?_⟩) hA ⟨Dd, rfl, by rw [← rel'.len]; exact alloc_get Dd⟩
              obtain ⟨g1, g2⟩ := e.frm a o q na
              exact ⟨g1, fun z => (List.mem_append.mp z).elim g2 fun z => by
                have z : a = Dd := by simpa using z
                subst z
                rw [hD] at q; cases q⟩
section
variable {Γ : Gm} {n : Nat} {N : List Str} {sc : Scope} {X : Cx}
theorem lookup_free {sc : Scope} : ∀ {names : List (Str × NameKind)} {x : Str}, names.lookup x = some .free →
    (names.map fun (n, k) => if (k == NameKind.free && sc.kind == .function && sc.names.lookup n == some .cell) then (n, NameKind.cell) else (n, k)).lookup x = some .free ∨
    (names.map fun (n, k) => if (k == NameKind.free && sc.kind == .function && sc.names.lookup n == some .cell) then (n, NameKind.cell) else (n, k)).lookup x = some .cell
  | [], _, h => by simp at h
  | (n, k₀) :: r, x, h => by
    have ih := @lookup_free sc r x
    have he : ∀ k, List.lookup x ((if (k₀ == NameKind.free && sc.kind == .function && sc.names.lookup n == some .cell) = true then (n, NameKind.cell) else (n, k₀)) :: (r.map fun (n, k) => if (k == NameKind.free && sc.kind == .function && sc.names.lookup n == some .cell) then (n, NameKind.cell) else (n, k))) = some k → (((n, k₀) :: r).map fun (n, k) => if (k == NameKind.free && sc.kind == .function && sc.names.lookup n == some .cell) then (n, NameKind.cell) else (n, k)).lookup x = some k := fun _ z => z
    cases hx : x == n with
    | true =>
      simp only [List.lookup_cons, hx] at h
      cases h
      by_cases hc : (NameKind.free == NameKind.free && sc.kind == .function && sc.names.lookup n == some .cell) = true
      · refine .inr (he _ ?_)
        rw [if_pos hc]
        simp only [List.lookup_cons, hx]
      · refine .inl (he _ ?_)
        rw [if_neg hc]
        simp only [List.lookup_cons, hx]
    | false =>
      simp only [List.lookup_cons, hx] at h
      have hz : ∀ k, (r.map fun (n, k) => if (k == NameKind.free && sc.kind == .function && sc.names.lookup n == some .cell) then (n, NameKind.cell) else (n, k)).lookup x = some k → (((n, k₀) :: r).map fun (n, k) => if (k == NameKind.free && sc.kind == .function && sc.names.lookup n == some .cell) then (n, NameKind.cell) else (n, k)).lookup x = some k := fun k z => by
        refine he _ ?_
        by_cases hc : (k₀ == NameKind.free && sc.kind == .function && sc.names.lookup n == some .cell) = true
        · rw [if_pos hc]; simp only [List.lookup_cons, hx]; exact z
        · rw [if_neg hc]; simp only [List.lookup_cons, hx]; exact z
      exact (ih h).imp (hz _) (hz _)
theorem Good.blk (g : Good Γ n N sc X) (s : Shared) (H : Hp) (scope : Scope) (C : Addr) (cl : List (Str × Addr)) (fp : List Addr) : Good Γ n N scope (X.blk s H scope (compEnvC scope cl C X.env) fp) where
  prog := g.prog
  w := g.w
  K := g.K
  mg := g.mg
  base := g.base
  N := g.N
  calm := g.calm
  room := g.room
  grd := g.grd
  kd := fun x k h => by
    by_cases hk : k = .free
    · subst hk
      rcases lookup_free (sc := X.env.scope) h with e | e
      · exact .inl e
      · exact .inr ⟨rfl, e⟩
    · exact .inl (lookup_relS_keep (sc := X.env.scope) hk h)
  fn := fun x h => by
    rcases h with h | h
    · exact .inr (lookup_relS_keep (sc := X.env.scope) (fun z => nomatch z) h)
    · refine .inl ?_
      show (scope.names.lookup x == some NameKind.cell) = true
      rw [h]
      rfl
theorem Good.blkOk (g : Good Γ n N sc X) {scope : Scope} {own : List (Str × Nat)} (h : BlkOk N sc scope own) : BlkOk X.N X.env.scope scope own := by
  refine ⟨h.kind, h.uniq, by rw [g.N]; exact h.ix, fun y hy e => ?_, by rw [g.N]; exact h.own⟩
  rcases h.free y hy e with z | z
  · rcases g.kd _ _ z with q | ⟨q, _⟩
    · exact .inl q
    · cases q
  · rcases g.kd _ _ z with q | ⟨_, q⟩
    · exact .inr q
    · exact .inl q
def SndTs (Γ : Gm) (n : Nat) (N : List Str) (sc : Scope) (ifs : List Expr) (f : Loc → Sto → Option (R Bool)) : Prop := ∀ E : XK, ∃ t, (∀ X, Good Γ n N sc X → Passes (L2.CX Γ.P Γ.w) X E → PTs X ifs t) ∧ RefT Γ.K Γ.XR E t f
theorem snd_tsnil : SndTs Γ n N sc [] (fun _ S => some (.ok true S)) := fun E => ⟨tYes, fun X _ _ => pts_nil, fun m H S ρ σ rr Q rel vo hf p => by
  cases hf
  exact post_here p rel rfl⟩
theorem snd_tsone {c : Expr} {f : Loc → Sto → Option (R Bool)} (h : SndT Γ n N sc c f) : SndTs Γ n N sc [c] f := fun E => by
  obtain ⟨t, h1, h2⟩ := h E
  exact ⟨t, fun X g hx => pts_one (h1 X g hx), h2⟩
theorem noset_of {iter : Expr} {env : Env} (h : isSetE iter = false) : ∀ x, foldedSetIterable iter env x = pure x := fun x => by
  cases iter <;> first | rfl | cases h
/-! ### targets -/
def ownSlot (N : List Str) (sc : Scope) (x : Str) (i : Nat) : Bool := decide (N[i]? = some x) && isOwn (sc.names.lookup x)
def chkNs (N : List Str) (sc : Scope) : List Expr → List Nat → Bool
  | [], [] => true
  | e :: es, i :: is => (match e with | .Name x _ => ownSlot N sc x i | _ => false) && chkNs N sc es is
  | _, _ => false
def chkTg (N : List Str) (sc : Scope) (e : Expr) (t : Tg) : Bool := match t with
  | .one i => match e with
    | .Name x _ => ownSlot N sc x i
    | _ => false
  | .tup is => match e with
    | .Tuple es _ _ => chkNs N sc es is
    | _ => false
theorem own_slot {x : Str} {i : Nat} (h : ownSlot N sc x i = true) : N[i]? = some x ∧ isOwn (sc.names.lookup x) = true := by
  unfold ownSlot at h
  simp only [Bool.and_eq_true, decide_eq_true_eq] at h
  exact h
theorem snd_name {x : Str} {i : Nat} {px : Pos} (hN : N.Nodup) (h : ownSlot N sc x i = true) (gd : Good Γ n N sc X) : PG X (.Name x px) (gName i) :=
  pg_name (by rw [gd.N]; exact hN) (by rw [gd.N]; exact (own_slot h).1) (gd.loc (own_slot h).2).1 (gd.loc (own_slot h).2).2
theorem snd_names (hN : N.Nodup) (gd : Good Γ n N sc X) : ∀ {es : List Expr} {is : List Nat}, chkNs N sc es is = true → PGs X es (gNames is) ∧ (assignEach es X.env).length = is.length ∧ ∀ x ∈ assignEach es X.env, x.1 = false
  | [], [], _ => ⟨pgs_nil, rfl, fun x hx => by simp [assignEach] at hx⟩
  | [], _ :: _, h => by cases h
  | _ :: _, [], h => by cases h
  | e :: es, i :: is, h => by
    simp only [chkNs, Bool.and_eq_true] at h
    obtain ⟨h1, h2⟩ := h
    split at h1
    · rename_i x px
      obtain ⟨a1, a2, a3⟩ := snd_names hN gd h2
      refine ⟨pgs_cons (snd_name hN h1 gd) a1 rfl, by simp [assignEach, a2], fun y hy => ?_⟩
      rcases List.mem_cons.mp (show y ∈ (false, assign (.Name x px) X.env) :: assignEach es X.env from hy) with z | z
      · rw [z]
      · exact a3 y z
    · cases h1
theorem snd_tg (hN : N.Nodup) {e : Expr} {t : Tg} (h : chkTg N sc e t = true) : ∃ g, (∀ X, Good Γ n N sc X → PG X e g) ∧ RefG Γ.K g t := by
  unfold chkTg at h
  split at h
  · split at h
    · exact ⟨_, fun X gd => snd_name hN h gd, refG_one⟩
    · cases h
  · rename_i is
    split at h
    · rename_i es j p
      refine ⟨gTup Γ.K is.length (gNames is), fun X gd => ?_, refG_tup⟩
      obtain ⟨a1, a2, a3⟩ := snd_names hN gd h
      have z : PG X (.Tuple es j p) (gTup X.K is.length (gNames is)) := pg_tup gd.calm a1 a2 (List.findIdx?_eq_none_iff.mpr fun x hx => by rw [a3 x hx])
      rw [gd.K] at z
      exact z
    · cases h
/-- a comprehension's parts, together -/
structure LcOk (Γ : Gm) (n : Nat) (N : List Str) (sc : Scope) (elt iter tg : Expr) (tgt : Tg) (ifs : List Expr) (scope : Scope) (own : List (Str × Nat)) (fi : Loc → Sto → Option (R (List D × Option Nat))) (fc : Loc → Sto → Option (R Bool)) (fe : Loc → Sto → Option (R D)) : Prop where
  nd : N.Nodup
  hit : SndI Γ n N sc iter fi
  hif : SndTs Γ n N scope ifs fc
  hel : SndE Γ n N scope elt fe
  blk : BlkOk N sc scope own
  htg : chkTg N scope tg tgt = true
  iv : ∀ i ∈ tgt.ix, i ∈ own.map (·.2)
  nset : isSetE iter = false
def lcF (vs : List Nat) (tgt : Tg) (fi : Loc → Sto → Option (R (List D × Option Nat))) (fc : Loc → Sto → Option (R Bool)) (fe : Loc → Sto → Option (R D)) : Loc → Sto → Option (R D) := fun ρ S => bnd (fi ρ S) fun q S1 => bnd (noX (compGo (fun y S2 => (setT (wipeD ρ vs) tgt y).bind fun ρ' => fc ρ' S2) (fun y S2 => (setT (wipeD ρ vs) tgt y).bind fun ρ' => fe ρ' S2) (still q.2 q.1) q.1 S1)) fun ys S3 =>
      if ys.length ≤ sizeLine then some (.ok (.ref S3.length) (S3 ++ [.lst ys])) else none
variable {elt iter tg : Expr} {tgt : Tg} {ifs : List Expr} {scope : Scope} {own : List (Str × Nat)} {fi : Loc → Sto → Option (R (List D × Option Nat))} {fc : Loc → Sto → Option (R Bool)} {fe : Loc → Sto → Option (R D)} {px pos : Pos}
theorem snd_lc (h : LcOk Γ n N sc elt iter tg tgt ifs scope own fi fc fe) : SndE Γ n N sc (.ListComp elt [⟨tg, iter, ifs, 0⟩] scope pos) (lcF (own.map (·.2)) tgt fi fc fe) := fun E => by
  obtain ⟨wi, a1, a2⟩ := h.hit E
  obtain ⟨tt, b1, b2⟩ := h.hif E0
  obtain ⟨te, c1, c2⟩ := h.hel E0
  obtain ⟨g, d1, d2⟩ := snd_tg (Γ := Γ) (n := n) h.nd h.htg
  refine ⟨tLc wi g tt te (own.map (·.2)), fun X gd hx => ?_, ref_lc a2 b2 c2 d2 h.iv⟩
  exact pe_lc gd.calm (by rw [gd.N]; exact h.nd) (a1 X _ gd hx) (gd.blkOk h.blk) (fun s H C cl fp => d1 _ (gd.blk s H scope C cl fp))
    (fun s H C cl fp => b1 _ (gd.blk s H scope C cl fp) pass_blk) (fun s H C cl fp => c1 _ (gd.blk s H scope C cl fp) pass_blk) (noset_of h.nset)
end
end Mi

end
section
set_option Elab.async false
set_option linter.all false
set_option maxRecDepth 100000
set_option maxHeartbeats 1000000
/-! Statements. -/
namespace Mi
open PySem L2 PySem.Spec PyProof.Rows
section
variable (K : PySem.W.Frag) (XR : List Addr → Hp → Value → Option Addr → Nat → D → Prop) (E : XK)
def PostO (m : List Addr) (H : Hp) (o : O) (Dn : Ends) : Prop := match o with
  | .nx ρ' S' => ∀ σ' H' m', Ext K m H m' H' → Rel K m' S' H' → VO K m' H' ρ' σ' → Dn.nx σ' H'
  | .rt d S' => ∀ v H' m', Ext K m H m' H' → Rel K m' S' H' → VR K m' H' d v → Dn.rt v H'
  | .ex c dv S' => PostX K XR E m H c dv S'
def RefS (t : TS) (f : Loc → Sto → Option O) : Prop := ∀ m H S ρ σ o Dn, Rel K m S H → VO K m H ρ σ → f ρ S = some o → PostO K XR E m H o Dn → t Dn σ H
end
section
variable {K : PySem.W.Frag} {XR : List Addr → Hp → Value → Option Addr → Nat → D → Prop} {E : XK}
theorem PostO.mono {m m' : List Addr} {H H' : Hp} {o : O} {Dn : Ends} (e : Ext K m H m' H') (p : PostO K XR E m H o Dn) : PostO K XR E m' H' o Dn := by
  cases o with
  | nx ρ S => exact fun σ2 H2 m2 e2 => p σ2 H2 m2 (e.trans e2)
  | rt d S => exact fun v H2 m2 e2 => p v H2 m2 (e.trans e2)
  | ex c dv S => exact PostX.mono e p
/-- an expression first -/
theorem ref_ofE {α β : Type} {V1 : List Addr → Hp → α → β → Prop} {t : L2.St → Hp → (β → Hp → Prop) → Prop} {f : Loc → Sto → Option (R α)} (h : Ref K XR E V1 t f) {m : List Addr} {H : Hp} {S : Sto} {ρ : Loc} {σ : L2.St} {r : R α} {Q : β → Hp → Prop} (rel : Rel K m S H) (vo : VO K m H ρ σ) (hf : f ρ S = some r)
    (hx : ∀ c dv S1, r = .ex c dv S1 → PostX K XR E m H c dv S1) (hk : ∀ a S1 v H1 m1, r = .ok a S1 → Ext K m H m1 H1 → Rel K m1 S1 H1 → VO K m1 H1 ρ σ → V1 m1 H1 a v → Q v H1) : t σ H Q := by
  refine h m H S ρ σ r Q rel vo hf ?_
  cases r with
  | ok a S1 => exact fun v H1 m1 e1 rel1 hv => hk a S1 v H1 m1 rfl e1 rel1 (vo.mono e1) hv
  | ex c dv S1 => exact hx c dv S1 rfl
theorem ref_asg {t : TE} {g : TG} {tgt : Tg} {f : Loc → Sto → Option (R D)} (h : RefE K XR E t f) (hg : RefG K g tgt) : RefS K XR E (tAsg t g) (fun ρ S => ofE (f ρ S) fun d S1 => (setT ρ tgt d).map fun ρ1 => .nx ρ1 S1) := by
  intro m H S ρ σ o Dn rel vo hf p
  dsimp only at hf
  cases q : f ρ S with
  | none => rw [q] at hf; cases hf
  | some r =>
    rw [q] at hf
    refine ref_ofE h rel vo q (fun c dv S1 e => ?_) fun d S1 v H1 m1 e e1 rel1 vo1 hv => ?_
    · subst e; cases hf; exact p
    · subst e
      obtain ⟨ρ1, g1, g2⟩ := map_some (show (setT ρ tgt d).map (fun ρ1 => O.nx ρ1 S1) = some o from hf)
      subst g2
      exact hg m1 H1 S1 ρ σ d v ρ1 _ rel1 vo1 hv g1 fun σ' vo' _ => p σ' H1 m1 e1 rel1 vo'
theorem ref_expr {t : TE} {f : Loc → Sto → Option (R D)} (h : RefE K XR E t f) : RefS K XR E (tDrop t) (fun ρ S => ofE (f ρ S) fun _ S1 => some (.nx ρ S1)) := by
  intro m H S ρ σ o Dn rel vo hf p
  dsimp only at hf
  cases q : f ρ S with
  | none => rw [q] at hf; cases hf
  | some r =>
    rw [q] at hf
    refine ref_ofE h rel vo q (fun c dv S1 e => ?_) fun d S1 v H1 m1 e e1 rel1 vo1 hv => ?_
    · subst e; cases hf; exact p
    · subst e; cases hf
      exact p σ H1 m1 e1 rel1 vo1
theorem ref_ret {t : TE} {f : Loc → Sto → Option (R D)} (h : RefE K XR E t f) : RefS K XR E (tRet t) (fun ρ S => ofE (f ρ S) fun d S1 => some (.rt d S1)) := by
  intro m H S ρ σ o Dn rel vo hf p
  dsimp only at hf
  cases q : f ρ S with
  | none => rw [q] at hf; cases hf
  | some r =>
    rw [q] at hf
    refine ref_ofE h rel vo q (fun c dv S1 e => ?_) fun d S1 v H1 m1 e e1 rel1 vo1 hv => ?_
    · subst e; cases hf; exact p
    · subst e; cases hf
      exact p v H1 m1 e1 rel1 hv
theorem ref_if {tc : TT} {t u : TS} {fc : Loc → Sto → Option (R Bool)} {f g : Loc → Sto → Option O} (hc : RefT K XR E tc fc) (ht : RefS K XR E t f) (hu : RefS K XR E u g) :
    RefS K XR E (tIfS tc t u) (fun ρ S => match fc ρ S with
      | some (.ok true S1) => f ρ S1
      | some (.ok false S1) => g ρ S1
      | some (.ex c v S1) => some (.ex c v S1)
      | none => none) := by
  intro m H S ρ σ o Dn rel vo hf p
  dsimp only at hf
  cases q : fc ρ S with
  | none => rw [q] at hf; cases hf
  | some r =>
    rw [q] at hf
    refine ref_ofE hc rel vo q (fun c dv S1 e => ?_) fun d S1 v H1 m1 e e1 rel1 vo1 hv => ?_
    · subst e; cases hf; exact p
    · subst e
      have hv : v = d := hv
      subst hv
      cases v with
      | true =>
        rw [if_pos rfl]
        exact ht m1 H1 S1 ρ σ o Dn rel1 vo1 hf (p.mono e1)
      | false =>
        rw [if_neg Bool.false_ne_true]
        exact hu m1 H1 S1 ρ σ o Dn rel1 vo1 hf (p.mono e1)
theorem ref_never : RefS K XR E tNever (fun _ _ => none) := by
  intro m H S ρ σ o Dn rel vo hf p
  cases hf
theorem ref_next : RefS K XR E tNext (fun ρ S => some (.nx ρ S)) := by
  intro m H S ρ σ o Dn rel vo hf p
  cases hf
  exact p σ H m Ext.refl rel vo
theorem ref_seqS {t u : TS} {f g : Loc → Sto → Option O} (ht : RefS K XR E t f) (hu : RefS K XR E u g) :
    RefS K XR E (tSeq t u) (fun ρ S => match f ρ S with
      | some (.nx ρ1 S1) => g ρ1 S1
      | some (.rt d S1) => some (.rt d S1)
      | some (.ex c v S1) => some (.ex c v S1)
      | none => none) := by
  intro m H S ρ σ o Dn rel vo hf p
  dsimp only at hf
  cases q : f ρ S with
  | none => rw [q] at hf; cases hf
  | some r =>
    rw [q] at hf
    refine ht m H S ρ σ r _ rel vo q ?_
    cases r with
    | nx ρ1 S1 => exact fun σ1 H1 m1 e1 rel1 vo1 => hu m1 H1 S1 ρ1 σ1 o Dn rel1 vo1 hf (p.mono e1)
    | rt d S1 => cases hf; exact p
    | ex c dv S1 => cases hf; exact p
/-- xs[i] = v -/
theorem ref_setIx {te to ti : TE} {fe fo fi : Loc → Sto → Option (R D)} (he : RefE K XR E te fe) (ho : RefE K XR E to fo) (hi : RefE K XR E ti fi) :
    RefS K XR E (tAsg te (gSub to ti rSetL)) (fun ρ S => ofE (fe ρ S) fun v S1 => ofE (fo ρ S1) fun x S2 => ofE (fi ρ S2) fun y S3 => match x, y with
      | .ref r, .int n => match S3[r]? with
        | some (.lst xs) => match ixN xs.length n with
          | some j => some (.nx ρ (S3.set r (.lst (xs.set j v))))
          | none => none
        | _ => none
      | _, _ => none) := by
  intro m H S ρ σ o Dn rel vo hf p
  dsimp only at hf
  cases q : fe ρ S with
  | none => rw [q] at hf; cases hf
  | some r =>
    rw [q] at hf
    refine ref_ofE he rel vo q (fun c dv S1 e => ?_) fun d S1 v H1 m1 e e1 rel1 vo1 hv => ?_
    · subst e; cases hf; exact p
    subst e
    have p := p.mono e1
    simp only [ofE] at hf
    cases q2 : fo ρ S1 with
    | none => rw [q2] at hf; cases hf
    | some r2 =>
      rw [q2] at hf
      refine ref_ofE ho rel1 vo1 q2 (fun c dv S2 e => ?_) fun x S2 w H2 m2 e e2 rel2 vo2 hw => ?_
      · subst e; cases hf; exact p
      subst e
      have p := p.mono e2
      simp only at hf
      cases q3 : fi ρ S2 with
      | none => rw [q3] at hf; cases hf
      | some r3 =>
        rw [q3] at hf
        refine ref_ofE hi rel2 vo2 q3 (fun c dv S3 e => ?_) fun y S3 u H3 m3 e e3 rel3 vo3 hu => ?_
        · subst e; cases hf; exact p
        subst e
        have p := p.mono e3
        simp only at hf
        split at hf
        · rename_i r n
          split at hf
          · rename_i xs q4
            split at hf
            · rename_i j q5
              cases hf
              obtain ⟨a, ea, hm⟩ := VR.mono e3 _ _ hw
              have hu : u = .int n := hu
              obtain ⟨vs, g1, g2⟩ := rel3.lst hm q4
              have hv3 := VR.mono (e2.trans e3) _ _ hv
              obtain ⟨b1, b2⟩ := set_lst (ds := xs) (es := xs.set j d) rel3 hm (VRs.set hv3 j g2)
              exact ⟨a, vs, n, j, ea, hu, g1, by rw [g2.length]; exact q5, p σ _ m3 b1 b2 (vo3.mono b1)⟩
            · cases hf
          · cases hf
        · cases hf
theorem whl_mono {cond : Loc → Sto → Option (R Bool)} {body : Loc → Sto → Option O} : True := trivial
theorem ref_whl {tc : TT} {tb : TS} {cond : Loc → Sto → Option (R Bool)} {body : Loc → Sto → Option O} {W0 : Nat} (hc : RefT K XR E tc cond) (hb : RefS K XR E tb body) : RefS K XR E (tWhile tc tb) (fun ρ S => whlGo cond body W0 ρ S) := by
  intro m H S ρ σ o Dn rel vo hf p
  refine ⟨fun k σ' H' => ∃ m' S' ρ', Rel K m' S' H' ∧ VO K m' H' ρ' σ' ∧ whlGo cond body k ρ' S' = some o ∧ PostO K XR E m' H' o Dn, ⟨W0, m, S, ρ, rel, vo, hf, p⟩, ?_⟩
  rintro k σ' H' ⟨m', S', ρ', rel', vo', hw, p'⟩
  cases k with
  | zero => cases hw
  | succ k =>
    rw [whlGo] at hw
    cases q : cond ρ' S' with
    | none => rw [q] at hw; cases hw
    | some r =>
      rw [q] at hw
      refine ref_ofE hc rel' vo' q (fun c dv S1 e => ?_) fun b S1 v H1 m1 e e1 rel1 vo1 hv => ?_
      · subst e; cases hw; exact p'
      subst e
      have hv : v = b := hv
      subst hv
      have p1 := p'.mono e1
      cases v with
      | false =>
        rw [if_neg Bool.false_ne_true]
        cases hw
        exact p1 σ' H1 m1 Ext.refl rel1 vo1
      | true =>
        rw [if_pos rfl]
        simp only at hw
        refine ⟨fun σ2 H2 => ∃ m' S' ρ', Rel K m' S' H2 ∧ VO K m' H2 ρ' σ2 ∧ whlGo cond body k ρ' S' = some o ∧ PostO K XR E m' H2 o Dn, fun σ2 H2 z => ⟨k, Nat.lt_succ_self k, z⟩, ?_⟩
        cases q2 : body ρ' S1 with
        | none => rw [q2] at hw; cases hw
        | some r2 =>
          rw [q2] at hw
          refine hb m1 H1 S1 ρ' σ' r2 _ rel1 vo1 q2 ?_
          cases r2 with
          | nx ρ2 S2 => exact fun σ2 H2 m2 e2 rel2 vo2 => ⟨m2, S2, ρ2, rel2, vo2, hw, p1.mono e2⟩
          | rt d S2 => cases hw; exact p1
          | ex c dv S2 => cases hw; exact p1
theorem ref_for {wi : TI} {g : TG} {tgt : Tg} {tb : TS} {fi : Loc → Sto → Option (R (List D × Option Nat))} {body : Loc → Sto → Option O} (hi : RefI K XR E wi fi) (hg : RefG K g tgt) (hb : RefS K XR E tb body) :
    RefS K XR E (tFor wi g tb) (fun ρ S => match fi ρ S with
      | some (.ok q S1) => forGo tgt body (still q.2 q.1) q.1 ρ S1
      | some (.ex c v S1) => some (.ex c v S1)
      | none => none) := by
  intro m H S ρ σ o Dn rel vo hf p
  dsimp only at hf
  cases q : fi ρ S with
  | none => rw [q] at hf; cases hf
  | some r =>
    refine hi m H S ρ σ r _ rel vo q ?_
    rw [q] at hf
    cases r with
    | ex c dv S1 => cases hf; exact p
    | ok a S1 =>
      obtain ⟨xs, gg⟩ := a
      intro J H1 m1 e1 rel1 wk st
      have hf : forGo tgt body (still gg xs) xs ρ S1 = some o := hf
      refine ⟨fun j k σ' H' => k = xs.length - j ∧ j ≤ xs.length ∧ ∃ m' S' ρ', Ext K m1 H1 m' H' ∧ Rel K m' S' H' ∧ VO K m' H' ρ' σ' ∧ still gg xs S' = true ∧ forGo tgt body (still gg xs) (xs.drop j) ρ' S' = some o ∧ PostO K XR E m' H' o Dn, ⟨xs.length, by simp, Nat.zero_le _, m1, S1, ρ, Ext.refl, rel1, vo.mono e1, st, hf, p.mono e1⟩, ?_⟩
      rintro j k σ' H' ⟨rfl, hj, m', S', ρ', e, rel', vo', st', hr, p'⟩
      have w := wk m' H' S' e rel' st' j
      by_cases hlt : j < xs.length
      · refine .inr ⟨(w.1 _ (List.getElem?_eq_getElem hlt)).1, fun σ2 H2 => j + 1 ≤ xs.length ∧ ∃ m' S' ρ', Ext K m1 H1 m' H2 ∧ Rel K m' S' H2 ∧ VO K m' H2 ρ' σ2 ∧ still gg xs S' = true ∧ forGo tgt body (still gg xs) (xs.drop (j + 1)) ρ' S' = some o ∧ PostO K XR E m' H2 o Dn, fun σ2 H2 z => ⟨xs.length - (j + 1), by omega, rfl, z⟩, fun x H'' y => ?_⟩
        obtain ⟨e2, hx⟩ := (w.1 _ (List.getElem?_eq_getElem hlt)).2 x H'' y
        subst e2
        rw [List.drop_eq_getElem_cons hlt, forGo] at hr
        cases qs : setT ρ' tgt xs[j] with
        | none => rw [qs] at hr; cases hr
        | some ρ2 =>
          rw [qs] at hr
          simp only [Option.bind_some] at hr
          refine hg m' H'' S' ρ' σ' _ x ρ2 _ rel' vo' hx qs fun σ2 vo2 _ => ?_
          cases q2 : body ρ2 S' with
          | none => rw [q2] at hr; cases hr
          | some r2 =>
            rw [q2] at hr
            refine hb m' H'' S' ρ2 σ2 r2 _ rel' vo2 q2 ?_
            cases r2 with
            | nx ρ3 S3 =>
              obtain ⟨st3, hr⟩ := if_some' hr
              exact fun σ3 H3 m3 e3 rel3 vo3 => ⟨hlt, m3, S3, ρ3, e.trans e3, rel3, vo3, st3, hr, p'.mono e3⟩
            | rt d S3 => cases hr; exact p'
            | ex c dv S3 => cases hr; exact p'
      · have ej : j = xs.length := by omega
        subst ej
        rw [List.drop_length, forGo] at hr
        cases hr
        exact .inl ⟨w.2 (Nat.le_refl _), p' σ' H' m' Ext.refl rel' vo'⟩
end
/-! ### against the text -/
structure GoodB (Γ : Gm) (n : Nat) (N : List Str) (sc : Scope) (X : Cx) : Prop extends Good Γ n N sc X where
  own : PassesOwn (model X.prog X.w) X.A X.env X.xe
  scope : X.env.scope = sc
section
variable {Γ : Gm} {n : Nat} {N : List Str} {sc : Scope} {X : Cx} {pos : Pos}
def SndS (Γ : Gm) (n : Nat) (N : List Str) (sc : Scope) (st : Stmt) (f : Loc → Sto → Option O) : Prop := ∀ E : XK, ∃ t, (∀ X, GoodB Γ n N sc X → Passes (L2.CX Γ.P Γ.w) X E → PS X st t) ∧ RefS Γ.K Γ.XR E t f
def SndSs (Γ : Gm) (n : Nat) (N : List Str) (sc : Scope) (st : List Stmt) (f : Loc → Sto → Option O) : Prop := ∀ E : XK, ∃ t, (∀ X, GoodB Γ n N sc X → Passes (L2.CX Γ.P Γ.w) X E → PSs X st t) ∧ RefS Γ.K Γ.XR E t f
def isComp : Expr → Bool
  | .ListComp _ _ _ _ => true
  | .SetComp _ _ _ _ => true
  | .DictComp _ _ _ _ _ => true
  | _ => false
theorem sw_none {e : Expr} (h : isComp e = false) (t : Option Expr) (l : Nat) (env : Env) : swapsWith e t l env = pure false := by
  cases e <;> first | rfl | cases h
theorem sw_false {elt : Expr} {gs : List Comprehension} {scope : Scope} {p py : Pos} {y : Str} {l : Nat} {env : Env} (h : (env.scope.names.lookup y == some .local && (py.line == p.line)) = false) : swapsWith (.ListComp elt gs scope p) (some (.Name y py)) l env = pure false := by
  unfold swapsWith
  have h : (env.kindOf y == some .local && (py.line == p.line)) = false := h
  simp only [Expr.pos]
  cases hb : (env.blockKind == ScopeKind.function) with
  | false => rfl
  | true =>
    rw [Bool.true_and, h]
    rfl
theorem snd_ret {e : Expr} {f : Loc → Sto → Option (R D)} (h : SndE Γ n N sc e f) : SndS Γ n N sc (.Return (some e) pos) (fun ρ S => ofE (f ρ S) fun d S1 => some (.rt d S1)) := fun E => by
  obtain ⟨t, h1, h2⟩ := h E
  exact ⟨tRet t, fun X gd hx => ps_ret (h1 X gd.toGood hx), ref_ret h2⟩
theorem snd_expr {e : Expr} {f : Loc → Sto → Option (R D)} (h : SndE Γ n N sc e f) (hc : isComp e = false) : SndS Γ n N sc (.Expr e pos) (fun ρ S => ofE (f ρ S) fun _ S1 => some (.nx ρ S1)) := fun E => by
  obtain ⟨t, h1, h2⟩ := h E
  exact ⟨tDrop t, fun X gd hx => ps_expr (h1 X gd.toGood hx) (sw_none hc _ _ _), ref_expr h2⟩
theorem snd_set {e : Expr} {x : Str} {i : Nat} {px : Pos} {f : Loc → Sto → Option (R D)} (hN : N.Nodup) (ho : ownSlot N sc x i = true) (h : SndE Γ n N sc e f) (hs : ∀ X, GoodB Γ n N sc X → swapsWith e (some (.Name x px)) pos.line X.env = pure false) :
    SndS Γ n N sc (.Assign [.Name x px] e pos) (fun ρ S => ofE (f ρ S) fun d S1 => (setT ρ (.one i) d).map fun ρ1 => .nx ρ1 S1) := fun E => by
  obtain ⟨t, h1, h2⟩ := h E
  refine ⟨tAsg t (gName i), fun X gd hx => ?_, ref_asg h2 refG_one⟩
  exact ps_set (by rw [gd.N]; exact hN) (by rw [gd.N]; exact (own_slot ho).1) (gd.toGood.loc (own_slot ho).2).1 (h1 X gd.toGood hx) (hs X gd) (gd.toGood.loc (own_slot ho).2).2
variable {elt iter tg : Expr} {tgt : Tg} {ifs : List Expr} {scope : Scope} {own : List (Str × Nat)} {fi : Loc → Sto → Option (R (List D × Option Nat))} {fc : Loc → Sto → Option (R Bool)} {fe : Loc → Sto → Option (R D)}
theorem snd_setLc {x : Str} {i : Nat} {px p : Pos} (h : LcOk Γ n N sc elt iter tg tgt ifs scope own fi fc fe) (ho : ownSlot N sc x i = true) (hk : sc.kind = .function) (hl : sc.names.lookup x = some .local) (hp : (px.line == p.line) = true)
    (ha : (scope.names.any fun (n, k) => n == x && (k == .local || k == .cell)) = false) : SndS Γ n N sc (.Assign [.Name x px] (.ListComp elt [⟨tg, iter, ifs, 0⟩] scope p) pos) (fun ρ S => ofE (lcF (own.map (·.2)) tgt fi fc fe ρ S) fun d S1 => (setT ρ (.one i) d).map fun ρ1 => .nx ρ1 S1) := fun E => by
  obtain ⟨wi, a1, a2⟩ := h.hit E
  obtain ⟨tt, b1, b2⟩ := h.hif E0
  obtain ⟨te, c1, c2⟩ := h.hel E0
  obtain ⟨g, d1, d2⟩ := snd_tg (Γ := Γ) (n := n) h.nd h.htg
  refine ⟨tAsg (tLc wi g tt te (own.map (·.2))) (gName i), fun X gd hx => ?_, ref_asg (ref_lc a2 b2 c2 d2 h.iv) refG_one⟩
  have gg := gd.toGood
  exact ps_setLc gg.calm (by rw [gg.N]; exact h.nd) (by rw [gg.N]; exact (own_slot ho).1) (by rw [gd.scope]; exact hl) (sw_true (by rw [gd.scope]; exact hk) (by rw [gd.scope]; exact hl) hp ha) (a1 X _ gg hx) (gg.blkOk h.blk)
    (fun s H C cl fp => d1 _ (gg.blk s H scope C cl fp)) (fun s H C cl fp => b1 _ (gg.blk s H scope C cl fp) pass_blk) (fun s H C cl fp => c1 _ (gg.blk s H scope C cl fp) pass_blk) (noset_of h.nset)
theorem snd_setIx {a b e : Expr} {p : Pos} {fa fb fe : Loc → Sto → Option (R D)} (ha : SndE Γ n N sc a fa) (hb : SndE Γ n N sc b fb) (he : SndE Γ n N sc e fe) (hs : isSlcE b = false) (hc : isComp e = false) :
    SndS Γ n N sc (.Assign [.Subscript a b p] e pos) (fun ρ S => ofE (fe ρ S) fun v S1 => ofE (fa ρ S1) fun x S2 => ofE (fb ρ S2) fun y S3 => match x, y with
      | .ref r, .int n => match S3[r]? with
        | some (.lst xs) => match ixN xs.length n with
          | some j => some (.nx ρ (S3.set r (.lst (xs.set j v))))
          | none => none
        | _ => none
      | _, _ => none) := fun E => by
  obtain ⟨t, h1, h2⟩ := he E
  obtain ⟨u, h3, h4⟩ := ha E
  obtain ⟨v, h5, h6⟩ := hb E
  refine ⟨_, fun X gd hx => ?_, ref_setIx h2 h4 h6⟩
  exact ps_asg (h1 X gd.toGood hx) (pg_sub (h3 X gd.toGood hx) (h5 X gd.toGood hx) set_list (by intro w; cases b <;> first | rfl | cases hs)) (by unfold swapsWithSole; exact sw_none hc _ _ _) (by cases e <;> rfl) rfl
/-! a, b = .. -/
def nmOf : Expr → Str
  | .Name x _ => x
  | _ => ""
def isNm : Expr → Bool
  | .Name _ _ => true
  | _ => false
theorem chkNs_nm : ∀ {es : List Expr} {is : List Nat}, chkNs N sc es is = true → ∀ e ∈ es, isNm e = true
  | [], _, _, e, h => by simp at h
  | a :: es, [], h, e, he => by cases h
  | a :: es, i :: is, h, e, he => by
    simp only [chkNs, Bool.and_eq_true] at h
    rcases List.mem_cons.mp he with z | z
    · subst z
      cases e <;> first | rfl | cases h.1
    · exact chkNs_nm h.2 e z
theorem sole_tup {es : List Expr} {j : Nat} {p : Pos} {e : Expr} {l : Nat} {env : Env} : swapsWithSole [.Tuple es j p] e l env = pure false := by
  unfold swapsWithSole
  cases e <;> rfl
def isTupE : Expr → Bool
  | .Tuple _ _ _ => true
  | _ => false
theorem stores_plain {es : List Expr} {j : Nat} {p : Pos} {e : Expr} {env : Env} (h : isTupE e = false) : swappedStores [.Tuple es j p] e env = pure none := by
  cases e <;> first | rfl | cases h
theorem flt_ne {α β : Type} {f : α → Option β} {l : List α} {e : α} (he : e ∈ l) (h : f e = none) : ((l.filterMap f).length != l.length) = true := by
  rw [bne_iff_ne]
  intro z
  have q := List.filterMap_length_eq_length.mp z e he
  rw [h] at q
  cases q
theorem any2 {α : Type} {a b : α} {f : α → Bool} (h1 : f a = false) (h2 : f b = false) : [a, b].any f = false := by
  simp [h1, h2]
/-- the pair is made and unpacked, as not all of the names are locals -/
theorem stores_cell {es vs : List Expr} {j j2 : Nat} {p p2 : Pos} {env : Env} (h : ∃ e ∈ es, isNm e = true ∧ (env.kindOf (nmOf e) == some .local) = false) : swappedStores [.Tuple es j p] (.Tuple vs j2 p2) env = pure none := by
  obtain ⟨e, he, h1, h2⟩ := h
  unfold swappedStores
  dsimp only
  split
  · rfl
  · split
    · rfl
    · split
      · rfl
      · rename_i hh
        exfalso
        simp only [Bool.or_eq_true, not_or] at hh
        refine hh.1 (flt_ne he ?_)
        cases e with
        | Name x px =>
          have h2 : (env.kindOf x == some NameKind.local) = false := h2
          show (if (env.kindOf x == some .local && px.line == _) = true then some x else none) = none
          rw [h2]
          rfl
        | _ => cases h1
theorem snd_tasg {es : List Expr} {is : List Nat} {j : Nat} {p : Pos} {e : Expr} {f : Loc → Sto → Option (R D)} (hN : N.Nodup) (hg : chkTg N sc (.Tuple es j p) (.tup is) = true) (h : SndE Γ n N sc e f)
    (hs : isTupE e = false ∨ ∃ y ∈ es, (sc.names.lookup (nmOf y) == some .local) = false) :
    SndS Γ n N sc (.Assign [.Tuple es j p] e pos) (fun ρ S => ofE (f ρ S) fun d S1 => (setT ρ (.tup is) d).map fun ρ1 => .nx ρ1 S1) := fun E => by
  obtain ⟨t, h1, h2⟩ := h E
  obtain ⟨g, d1, d2⟩ := snd_tg (Γ := Γ) (n := n) hN hg
  refine ⟨tAsg t g, fun X gd hx => ?_, ref_asg h2 d2⟩
  refine ps_asg (h1 X gd.toGood hx) (d1 X gd.toGood) sole_tup ?_ rfl
  cases hb : isTupE e with
  | false => exact stores_plain hb
  | true =>
    rcases hs with z | ⟨y, hy, hc⟩
    · rw [hb] at z; cases z
    · cases e with
      | Tuple vs j2 p2 => exact stores_cell ⟨y, hy, chkNs_nm hg y hy, by show (X.env.scope.names.lookup (nmOf y) == some .local) = false; rw [gd.scope]; exact hc⟩
      | _ => cases hb
/-- two locals at once -/
theorem stores_two {x y : Str} {px py p p2 : Pos} {a b : Expr} {j j2 : Nat} {env : Env} (hk : env.scope.kind = .function) (hx : env.scope.names.lookup x = some .local) (hy : env.scope.names.lookup y = some .local) (hl : (py.line == px.line) = true) (hxy : (y == x) = false)
    (sa : isStar a = false) (sb : isStar b = false) (hf : ([a, b].all (foldedForSure 8)) = false) (hc : ([a, b].all (constantsAlone 8)) = false) : swappedStores [.Tuple [.Name x px, .Name y py] j p] (.Tuple [a, b] j2 p2) env = pure (some [x, y]) := by
  have kx : (env.kindOf x == some NameKind.local) = true := by
    have z : env.kindOf x = some NameKind.local := hx
    rw [z]; rfl
  have ky : (env.kindOf y == some NameKind.local) = true := by
    have z : env.kindOf y = some NameKind.local := hy
    rw [z]; rfl
  have hb : env.blockKind = .function := by unfold Env.blockKind; rw [hk]; rfl
  have he : ([x, y] : List Str).eraseDups = [x, y] := by
    simp [List.eraseDups_cons, hxy]
  unfold swappedStores
  simp only [hb, List.filterMap_cons, List.filterMap_nil, kx, ky, List.head?_cons, Option.map_some, Option.getD_some, Expr.pos, beq_self_eq_true, Bool.true_and, hl, if_true, he]
  refine (if_neg (by simp)).trans ?_
  refine (if_neg (Bool.eq_false_iff.mp (any2 (by cases a <;> first | rfl | cases sa) (by cases b <;> first | rfl | cases sb)))).trans ?_
  refine (if_neg (by simp)).trans ?_
  rw [hf, hc]
  rfl
theorem snd_par {x y : Str} {i j k1 k2 : Nat} {px py p p2 : Pos} {a b : Expr} {g : Loc → Sto → Option (R (List D))} (hN : N.Nodup) (hi : ownSlot N sc x i = true) (hj : ownSlot N sc y j = true) (hij : i ≠ j) (hk : sc.kind = .function) (hx : sc.names.lookup x = some .local) (hy : sc.names.lookup y = some .local) (hl : (py.line == px.line) = true) (hxy : (y == x) = false)
    (sa : isStar a = false) (sb : isStar b = false) (hf : ([a, b].all (foldedForSure 8)) = false) (hc : ([a, b].all (constantsAlone 8)) = false) (h : SndA Γ n N sc [a, b] g) :
    SndS Γ n N sc (.Assign [.Tuple [.Name x px, .Name y py] k1 p] (.Tuple [a, b] k2 p2) pos) (fun ρ S => ofE (bnd (g ρ S) fun ds S1 => if ds.length ≤ sizeLine then some (.ok (.tup ds) S1) else none) fun d S1 => (setT ρ (.tup [i, j]) d).map fun ρ1 => .nx ρ1 S1) := fun E => by
  obtain ⟨t, h1, h2⟩ := h E
  refine ⟨tPar i j t, fun X gd hxx => ?_, ?_⟩
  · have gg := gd.toGood
    refine ps_par gg.calm (by rw [gg.N]; exact hN) (by rw [gg.N]; exact (own_slot hi).1) (by rw [gg.N]; exact (own_slot hj).1) hij (by rw [gd.scope]; exact hx) (by rw [gd.scope]; exact hy) (h1 X gg hxx) ?_ sole_tup
    exact stores_two (by rw [gd.scope]; exact hk) (by rw [gd.scope]; exact hx) (by rw [gd.scope]; exact hy) hl hxy sa sb hf hc
  · intro m H S ρ σ o Dn rel vo hff p
    dsimp only at hff
    cases q : g ρ S with
    | none => rw [q] at hff; cases hff
    | some r =>
      rw [q] at hff
      refine ref_ofE h2 rel vo q (fun c dv S1 e => ?_) fun ds S1 vs H1 m1 e e1 rel1 vo1 hv => ?_
      · subst e; cases hff; exact p
      subst e
      rw [bnd_ok] at hff
      by_cases hz : ds.length ≤ sizeLine
      · rw [if_pos hz] at hff
        obtain ⟨ρ1, g1, g2⟩ := map_some (show (setT ρ (.tup [i, j]) (.tup ds)).map (fun ρ1 => O.nx ρ1 S1) = some o from hff)
        subst g2
        obtain ⟨g3, g4⟩ := if_some (show (if ds.length = [i, j].length then some (setAll ρ [i, j] ds) else none) = some ρ1 from g1)
        subst g4
        match ds, hv, g3 with
        | [d1, d2], hv, _ =>
          obtain ⟨v, w, e, a1, a2⟩ := hv.two
          exact ⟨v, w, e, p _ H1 m1 e1 rel1 ((vo1.put a1 i).put a2 j)⟩
      · rw [if_neg hz] at hff
        cases hff
theorem snd_never {st : Stmt} : SndS Γ n N sc st (fun _ _ => none) := fun E => ⟨tNever, fun X _ _ => ps_never, ref_never⟩
theorem snd_if {c : Expr} {a b : List Stmt} {fc : Loc → Sto → Option (R Bool)} {f g : Loc → Sto → Option O} (hc : SndT Γ n N sc c fc) (ha : SndSs Γ n N sc a f) (hb : SndSs Γ n N sc b g) :
    SndS Γ n N sc (.If c a b pos) (fun ρ S => match fc ρ S with
      | some (.ok true S1) => f ρ S1
      | some (.ok false S1) => g ρ S1
      | some (.ex c v S1) => some (.ex c v S1)
      | none => none) := fun E => by
  obtain ⟨t, h1, h2⟩ := hc E
  obtain ⟨u, h3, h4⟩ := ha E
  obtain ⟨v, h5, h6⟩ := hb E
  exact ⟨tIfS t u v, fun X gd hx => ps_if (h1 X gd.toGood hx) (h3 X gd hx) (h5 X gd hx), ref_if h2 h4 h6⟩
theorem snd_whl {c : Expr} {b : List Stmt} {W0 : Nat} {cond : Loc → Sto → Option (R Bool)} {body : Loc → Sto → Option O} (hc : SndT Γ n N sc c cond) (hb : SndSs Γ n N sc b body) : SndS Γ n N sc (.While c b [] pos) (fun ρ S => whlGo cond body W0 ρ S) := fun E => by
  obtain ⟨t, h1, h2⟩ := hc E
  obtain ⟨u, h3, h4⟩ := hb E
  exact ⟨tWhile t u, fun X gd hx => ps_while gd.own (h1 X gd.toGood hx) (h3 X gd hx), ref_whl h2 h4⟩
theorem snd_for {it tg : Expr} {b : List Stmt} {tgt : Tg} {fi : Loc → Sto → Option (R (List D × Option Nat))} {body : Loc → Sto → Option O} (hN : N.Nodup) (hi : SndI Γ n N sc it fi) (hg : chkTg N sc tg tgt = true) (hb : SndSs Γ n N sc b body) (hs : isSetE it = false) :
    SndS Γ n N sc (.For tg it b [] pos) (fun ρ S => match fi ρ S with
      | some (.ok q S1) => forGo tgt body (still q.2 q.1) q.1 ρ S1
      | some (.ex c v S1) => some (.ex c v S1)
      | none => none) := fun E => by
  obtain ⟨wi, h1, h2⟩ := hi E
  obtain ⟨g, d1, d2⟩ := snd_tg (Γ := Γ) (n := n) hN hg
  obtain ⟨u, h3, h4⟩ := hb E
  exact ⟨tFor wi g u, fun X gd hx => ps_for gd.own gd.calm (h1 X tg gd.toGood hx) (d1 X gd.toGood) (h3 X gd hx) (noset_of hs), ref_for h2 d2 h4⟩
theorem snd_snil : SndSs Γ n N sc [] (fun ρ S => some (.nx ρ S)) := fun E => ⟨tNext, fun X _ _ => pss_nil, ref_next⟩
theorem snd_scons {st : Stmt} {rest : List Stmt} {f g : Loc → Sto → Option O} (hs : SndS Γ n N sc st f) (hr : SndSs Γ n N sc rest g) : SndSs Γ n N sc (st :: rest) (fun ρ S => match f ρ S with
      | some (.nx ρ1 S1) => g ρ1 S1
      | some (.rt d S1) => some (.rt d S1)
      | some (.ex c v S1) => some (.ex c v S1)
      | none => none) := fun E => by
  obtain ⟨t, h1, h2⟩ := hs E
  obtain ⟨u, h3, h4⟩ := hr E
  exact ⟨tSeq t u, fun X gd hx => pss_cons (h1 X gd hx) (h3 X gd hx), ref_seqS h2 h4⟩
end
end Mi

end
section
set_option Elab.async false
set_option linter.all false
set_option maxRecDepth 100000
set_option maxHeartbeats 1000000
/-! A text against the small language: the check, and what it tells. -/
namespace Mi
open PySem L2 PySem.Spec PyProof.Rows
def noStar (ps : List Expr) : Bool := ps.all fun e => !isStar e
def opN : Operator → Option Op2
  | .Add => some .add
  | .Sub => some .sub
  | .Mult => some .mul
  | .FloorDiv => some .fdiv
  | .Mod => some .mod
  | .Pow => some .pow
  | _ => none
theorem opN_o {o : Operator} {p : Op2} (h : opN o = some p) : o = oOp p := by
  cases o <;> first | cases h; rfl | cases h
def cmN : CmpOp → Option Cm
  | .Lt => some .lt
  | .LtE => some .le
  | .Gt => some .gt
  | .GtE => some .ge
  | .Eq => some .eq
  | .NotEq => some .ne
  | .Is => some .isN
  | .IsNot => some .notN
  | .In => some .isIn
  | .NotIn => some .notIn
theorem cmN_o {o : CmpOp} {p : Cm} (h : cmN o = some p) : o = oCm p := by
  cases o <;> first | cases h; rfl | cases h
/-- the name of a built-in type -/
def tyNm : List (Str × String) := [("int", "int"), ("bool", "bool"), ("str", "str"), ("tuple", "tuple"), ("list", "list"), ("dict", "dict")]
theorem tyNm_ok {x : Str} {t : String} (h : (x, t) ∈ tyNm) : bootBuiltins x = some (.type t) ∧ x ∈ freeNames ∧ plainN x = true := by
  have key : ∀ q ∈ tyNm, bootBuiltins q.1 = some (.type q.2) ∧ q.1 ∈ freeNames ∧ plainN q.1 = true := by
    intro q hq
    simp only [tyNm, List.mem_cons, List.not_mem_nil, or_false] at hq
    rcases hq with rfl | rfl | rfl | rfl | rfl | rfl
    all_goals exact ⟨by decide +kernel, by decide +kernel, by decide +kernel⟩
  exact key _ h
def isM1 : Expr → Bool
  | .UnaryOp .USub (.Constant (.int i) _ _) _ => decide (i = 1)
  | _ => false
/-- what an iteration is over -/
def itArgs (sc : Scope) (k : Ik) (iter : Expr) : Option (List Expr) := match k with
  | .seq => some [iter]
  | _ => match iter with
    | .Call (.Name x _) ps [] _ => if (decide (x = "range") && isGlb (sc.names.lookup x) && noStar ps && (match k with
        | .rng1 => ps.length == 1
        | .rng2 => ps.length == 2
        | .rng3 => ps.length == 3
        | .seq => false)) = true then some ps else none
    | _ => none
section
variable (N : List Str) (Gn : List (Str × D)) (T : List Fd)
mutual
def chkE : E → Scope → Expr → Bool
  | .var i, sc, pe => match pe with
    | .Name x _ => decide (N[i]? = some x) && isVis (sc.names.lookup x) && plainN x
    | _ => false
  | .lit d, sc, pe => match pe with
    | .Constant c _ _ => match d, c with
      | .int i, .int j => decide (i = j)
      | .bl a, .bool b => a == b
      | .non, .none => true
      | .str x, .str y => decide (x = y)
      | _, _ => false
    | _ => false
  | .glb k, sc, pe => match pe with
    | .Name x _ => decide ((Gn[k]?).map (·.1) = some x) && isGlb (sc.names.lookup x) && plainN x
    | _ => false
  | .tup es, sc, pe => match pe with
    | .Tuple ps _ _ => noStar ps && chkEs es sc ps
    | _ => false
  | .lst es, sc, pe => match pe with
    | .List ps _ => noStar ps && chkEs es sc ps
    | _ => false
  | .dic ks es, sc, pe => match pe with
    | .Dict dks ps _ => (match ks, dks with
        | [], [] => ps.isEmpty
        | [x], [some (.Constant (.str y) _ _)] => decide (x = y) && ps.length == 1
        | _, _ => false) && chkEs es sc ps
    | _ => false
  | .op o a b, sc, pe => match pe with
    | .BinOp a' o' b' _ => decide (opN o' = some o) && chkE a sc a' && chkE b sc b'
    | _ => false
  | .neg a, sc, pe => match pe with
    | .UnaryOp .USub a' _ => chkE a sc a'
    | _ => false
  | .cmp c a b, sc, pe => match pe with
    | .Compare a' [c'] [b'] _ => decide (cmN c' = some c) && !isSetE b' && chkE a sc a' && chkE b sc b'
    | _ => false
  | .chain c1 c2 a b c, sc, pe => match pe with
    | .Compare a' [c1', c2'] [b', c'] _ => decide (cmN c1' = some c1) && decide (cmN c2' = some c2) && !isSetE c' && chkE a sc a' && chkE b sc b' && chkE c sc c'
    | _ => false
  | .and es, sc, pe => match pe with
    | .BoolOp .And ps _ => !ps.isEmpty && ps.all (fun e => !isIfE e) && chkEs es sc ps
    | _ => false
  | .or es, sc, pe => match pe with
    | .BoolOp .Or ps _ => !ps.isEmpty && ps.all (fun e => !isIfE e) && chkEs es sc ps
    | _ => false
  | .not a, sc, pe => match pe with
    | .UnaryOp .Not a' _ => !isIfE a' && chkE a sc a'
    | _ => false
  | .ite c a b, sc, pe => match pe with
    | .IfExp c' a' b' _ => !isIfE c' && chkE c sc c' && chkE a sc a' && chkE b sc b'
    | _ => false
  | .ix a b, sc, pe => match pe with
    | .Subscript a' b' _ => !isSlcE b' && chkE a sc a' && chkE b sc b'
    | _ => false
  | .slc a lo hi, sc, pe => match pe with
    | .Subscript a' (.Slice lo' hi' none _) _ => chkE a sc a' && chkO lo sc lo' && chkO hi sc hi'
    | _ => false
  | .rev a, sc, pe => match pe with
    | .Subscript a' (.Slice none none (some st) _) _ => isM1 st && chkE a sc a'
    | _ => false
  | .call f es, sc, pe => match pe with
    | .Call (.Name x _) ps [] _ => decide ((T[f]?).map (·.name) = some x) && isGlb (sc.names.lookup x) && plainN x && !ps.isEmpty && noStar ps && chkEs es sc ps
    | _ => false
  | .bi b es, sc, pe => match pe with
    | .Call (.Name x _) ps [] _ => isGlb (sc.names.lookup x) && noStar ps && (match b with
      | .isi t => match ps with
        | [a, .Name y _] => decide (x = "isinstance") && isGlb (sc.names.lookup y) && decide ((y, t) ∈ tyNm) && chkEs es sc [a]
        | _ => false
      | .rng => match ps with
        | [.Call (.Name y _) [c, d] [] _] => decide (x = "list") && decide (y = "range") && isGlb (sc.names.lookup y) && !isStar c && !isStar d && chkEs es sc [c, d]
        | _ => false
      | .rng1 => match ps with
        | [.Call (.Name y _) [c] [] _] => decide (x = "list") && decide (y = "range") && isGlb (sc.names.lookup y) && !isStar c && chkEs es sc [c]
        | _ => false
      | .sset => match ps with
        | [.Call (.Name y _) [c] [] _] => decide (x = "sorted") && decide (y = "set") && isGlb (sc.names.lookup y) && !isStar c && chkEs es sc [c]
        | _ => false
      | b => decide ((biV b).map (·.1) = some x) && !ps.isEmpty && chkEs es sc ps)
    | _ => false
  | .ext a b, sc, pe => match pe with
    | .Call (.Attribute a' m apos) [b'] [] pos => decide (m = "extend") && isNameE a' && !isStar b' && (apos.endLine == pos.line) && chkE a sc a' && chkE b sc b'
    | _ => false
  | .app a b, sc, pe => match pe with
    | .Call (.Attribute a' m apos) [b'] [] pos => decide (m = "append") && isNameE a' && !isStar b' && (apos.endLine == pos.line) && chkE a sc a' && chkE b sc b'
    | _ => false
  | .lc vs t k its cs elt, sc, pe => match pe with
    | .ListComp elt' [⟨tg, iter, ifs, asy⟩] scope _ => decide (asy = 0) && blkC N sc scope (vs.map fun i => (N.getD i "", i)) && chkTg N scope tg t && t.ix.all (fun i => decide (i ∈ vs)) && !isSetE iter &&
        (match itArgs sc k iter with
          | some ps => chkEs its sc ps
          | none => false) && chkTs cs scope ifs && chkE elt scope elt'
    | _ => false
def chkEs : List E → Scope → List Expr → Bool
  | [], sc, ps => ps.isEmpty
  | e :: es, sc, ps => match ps with
    | [] => false
    | p :: ps => chkE e sc p && chkEs es sc ps
def chkTs : List E → Scope → List Expr → Bool
  | [], sc, ps => ps.isEmpty
  | e :: es, sc, ps => match ps with
    | [p] => !isIfE p && es.isEmpty && chkE e sc p
    | _ => false
def chkO : Option E → Scope → Option Expr → Bool
  | none, sc, po => po.isNone
  | some e, sc, po => match po with
    | some p => chkE e sc p
    | none => false
end
end
section
variable {Γ : Gm} {n : Nat} {N : List Str} {sc : Scope}
theorem SndE.congr {pe : Expr} {f g : Loc → Sto → Option (R D)} (h : SndE Γ n N sc pe f) (e : ∀ ρ S, g ρ S = f ρ S) : SndE Γ n N sc pe g := by
  have : g = f := by funext ρ S; exact e ρ S
  rw [this]; exact h
theorem SndT.congr {pe : Expr} {f g : Loc → Sto → Option (R Bool)} (h : SndT Γ n N sc pe f) (e : ∀ ρ S, g ρ S = f ρ S) : SndT Γ n N sc pe g := by
  have : g = f := by funext ρ S; exact e ρ S
  rw [this]; exact h
theorem SndI.congr {pe : Expr} {f g : Loc → Sto → Option (R (List D × Option Nat))} (h : SndI Γ n N sc pe f) (e : ∀ ρ S, g ρ S = f ρ S) : SndI Γ n N sc pe g := by
  have : g = f := by funext ρ S; exact e ρ S
  rw [this]; exact h
theorem SndA.congr {pe : List Expr} {f g : Loc → Sto → Option (R (List D))} (h : SndA Γ n N sc pe f) (e : ∀ ρ S, g ρ S = f ρ S) : SndA Γ n N sc pe g := by
  have : g = f := by funext ρ S; exact e ρ S
  rw [this]; exact h
theorem noStar_all {ps : List Expr} (h : noStar ps = true) : ∀ e ∈ ps, isStar e = false := fun e he => by
  have := List.all_eq_true.mp h e he
  simpa using this
/-- both readings -/
def Snd2 (Γ : Gm) (n : Nat) (N : List Str) (sc : Scope) (pe : Expr) (f : Loc → Sto → Option (R D)) : Prop := SndE Γ n N sc pe f ∧ (isIfE pe = false → SndT Γ n N sc pe (fun ρ S => tst (f ρ S)))
theorem Snd2.of {pe : Expr} {f g : Loc → Sto → Option (R D)} (h : SndE Γ n N sc pe f) (hp : plainT pe = true) (e : ∀ ρ S, g ρ S = f ρ S) : Snd2 Γ n N sc pe g := ⟨h.congr e, fun _ => (h.test hp).congr fun ρ S => by rw [e]⟩
theorem map_eq {α β : Type} {x : Option α} {f : α → β} {y : β} (h : x.map f = some y) : ∃ a, x = some a ∧ f a = y := by
  cases x with
  | none => cases h
  | some a => exact ⟨a, rfl, by simpa using h⟩
theorem len2 {α : Type} {l : List α} (h : l.length = 2) : ∃ a b, l = [a, b] := by
  match l, h with
  | [a, b], _ => exact ⟨a, b, rfl⟩
theorem len3 {α : Type} {l : List α} (h : l.length = 3) : ∃ a b c, l = [a, b, c] := by
  match l, h with
  | [a, b, c], _ => exact ⟨a, b, c, rfl⟩
theorem snd_it (F : Γ.Facts) {k : Ik} {iter : Expr} {ps : List Expr} {its : List E} {G : List D} {cal : Cal} (h : itArgs sc k iter = some ps) (hs : Sn Γ n N sc (evE G cal) its ps) :
    SndI Γ n N sc iter (fun ρ S => bnd (evEs G cal its ρ S) fun ds S1 => (itD S1 k ds).map fun q => .ok q S1) := by
  cases k with
  | seq =>
    cases h
    cases hs with
    | cons h1 h2 h3 =>
      cases h3
      refine (snd_seq h1).congr fun ρ S => ?_
      simp [evEs]
  | rng1 =>
    unfold itArgs at h
    dsimp only at h
    split at h
    · rename_i x p ps' pos
      obtain ⟨g1, g2⟩ := if_some h
      subst g2
      simp only [Bool.and_eq_true, decide_eq_true_eq, beq_iff_eq] at g1
      obtain ⟨⟨⟨e1, e2⟩, e3⟩, e4⟩ := g1
      subst e1
      have st := noStar_all e3
      have ha := hs.args st
      obtain ⟨a, rfl⟩ := List.length_eq_one_iff.mp e4
      exact snd_irng1 F ha (st a (by simp)) e2
    · cases h
  | rng2 =>
    unfold itArgs at h
    dsimp only at h
    split at h
    · rename_i x p ps' pos
      obtain ⟨g1, g2⟩ := if_some h
      subst g2
      simp only [Bool.and_eq_true, decide_eq_true_eq, beq_iff_eq] at g1
      obtain ⟨⟨⟨e1, e2⟩, e3⟩, e4⟩ := g1
      subst e1
      have st := noStar_all e3
      have ha := hs.args st
      obtain ⟨a, b, rfl⟩ := len2 e4
      exact snd_irng2 F ha (st a (by simp)) (st b (by simp)) e2
    · cases h
  | rng3 =>
    unfold itArgs at h
    dsimp only at h
    split at h
    · rename_i x p ps' pos
      obtain ⟨g1, g2⟩ := if_some h
      subst g2
      simp only [Bool.and_eq_true, decide_eq_true_eq, beq_iff_eq] at g1
      obtain ⟨⟨⟨e1, e2⟩, e3⟩, e4⟩ := g1
      subst e1
      have st := noStar_all e3
      have ha := hs.args st
      obtain ⟨a, b, c, rfl⟩ := len3 e4
      exact snd_irng3 F ha (st a (by simp)) (st b (by simp)) (st c (by simp)) e2
    · cases h
end
end Mi

end
section
set_option Elab.async false
set_option linter.all false
set_option maxRecDepth 100000
set_option maxHeartbeats 2000000
/-! What the check tells: expressions. -/
namespace Mi
open PySem L2 PySem.Spec PyProof.Rows
section
variable {Γ : Gm} {n : Nat} {N : List Str}
theorem bnd_bnd {α β γ : Type} (x : Option (R α)) (f : α → Sto → Option (R β)) (g : β → Sto → Option (R γ)) : bnd (bnd x f) g = bnd x fun a S => bnd (f a S) g := by
  cases x with
  | none => rfl
  | some r => cases r <;> rfl
theorem Sn.one {ev : E → Loc → Sto → Option (R D)} {sc : Scope} {es : List E} {p : Expr} (h : Sn Γ n N sc ev es [p]) : ∃ e, es = [e] ∧ SndE Γ n N sc p (ev e) := by
  cases h with
  | cons h1 h2 h3 =>
    cases h3
    exact ⟨_, rfl, h1⟩
theorem Sn.two {ev : E → Loc → Sto → Option (R D)} {sc : Scope} {es : List E} {p q : Expr} (h : Sn Γ n N sc ev es [p, q]) : ∃ e f, es = [e, f] ∧ SndE Γ n N sc p (ev e) ∧ SndE Γ n N sc q (ev f) := by
  cases h with
  | cons h1 h2 h3 =>
    obtain ⟨f, e1, h4⟩ := h3.one
    subst e1
    exact ⟨_, f, rfl, h1, h4⟩
theorem Sn.same {ev : E → Loc → Sto → Option (R D)} {sc : Scope} : ∀ {es : List E} {ps : List Expr}, Sn Γ n N sc ev es ps → es.length = ps.length
  | _, _, .nil => rfl
  | _, _, .cons _ _ h => by rw [List.length_cons, List.length_cons, h.same]
theorem Sn.ne {ev : E → Loc → Sto → Option (R D)} {sc : Scope} {es : List E} {ps : List Expr} (h : Sn Γ n N sc ev es ps) (hp : ps ≠ []) : es ≠ [] := fun z => by
  subst z
  cases h
  exact hp rfl
theorem nempty {α : Type} {l : List α} (h : l.isEmpty = false) : l ≠ [] := fun z => by subst z; cases h
theorem noIf_all {ps : List Expr} (h : (ps.all fun e => !isIfE e) = true) : ∀ e ∈ ps, isIfE e = false := fun e he => by
  have := List.all_eq_true.mp h e he
  simpa using this
theorem own_snd (N : List Str) (vs : List Nat) : ((vs.map fun i => (N.getD i "", i)).map (·.2)) = vs := by
  rw [List.map_map]
  exact List.map_id'' (fun _ => rfl) vs
theorem bi_plain (F : Γ.Facts) {sc : Scope} {b : Bi} {x : Str} {ps : List Expr} {p pos : Pos} {g : Loc → Sto → Option (R (List D))} (hb : (biV b).map (·.1) = some x) (hg : isGlb (sc.names.lookup x) = true) (h0 : ps ≠ []) (hs : ∀ e ∈ ps, isStar e = false) (ha : SndA Γ n N sc ps g) :
    SndE Γ n N sc (.Call (.Name x p) ps [] pos) (fun ρ S => bnd (g ρ S) fun ds S1 => lift2 (biD S1 b ds)) := by
  obtain ⟨⟨y, v⟩, h1, h2⟩ := map_eq hb
  have h2 : y = x := h2
  subst h2
  exact snd_bi F h1 hg h0 hs ha
variable (F : Γ.Facts) (C : Γ.Calls n) (hN : N.Nodup)
include F C hN
set_option maxHeartbeats 4000000 in
mutual
theorem sndE : ∀ (e : E) (sc : Scope) (pe : Expr), chkE N Γ.Gn Γ.T e sc pe = true → Snd2 Γ n N sc pe (evE Γ.G (Γ.cal n) e)
  | .var i, sc, pe, h => by
    simp only [chkE] at h
    split at h
    · simp only [Bool.and_eq_true, decide_eq_true_eq] at h
      exact Snd2.of (snd_var h.1.1 h.1.2 h.2) rfl fun ρ S => by rw [evE] <;> rfl
    · cases h
  | .lit d, sc, pe, h => by
    simp only [chkE] at h
    split at h
    · split at h
      · have h := of_decide_eq_true h
        subst h
        exact Snd2.of snd_int rfl fun ρ S => by rw [evE] <;> rfl
      · have h := eq_of_beq h
        subst h
        exact Snd2.of snd_bl rfl fun ρ S => by rw [evE] <;> rfl
      · exact Snd2.of snd_non rfl fun ρ S => by rw [evE] <;> rfl
      · have h := of_decide_eq_true h
        subst h
        exact Snd2.of snd_str rfl fun ρ S => by rw [evE] <;> rfl
      · cases h
    · cases h
  | .glb k, sc, pe, h => by
    simp only [chkE] at h
    split at h
    · simp only [Bool.and_eq_true, decide_eq_true_eq] at h
      obtain ⟨⟨h1, h2⟩, h3⟩ := h
      obtain ⟨⟨y, d⟩, e1, e2⟩ := map_eq h1
      have e2 : y = _ := e2
      subst e2
      exact Snd2.of (snd_glb F e1 h2 h3) rfl fun ρ S => by rw [evE] <;> rfl
    · cases h
  | .tup es, sc, pe, h => by
    simp only [chkE] at h
    split at h
    · simp only [Bool.and_eq_true] at h
      exact Snd2.of (snd_tup ((sndEs es sc _ h.2).args (noStar_all h.1))) rfl fun ρ S => by rw [evE] <;> rfl
    · cases h
  | .lst es, sc, pe, h => by
    simp only [chkE] at h
    split at h
    · simp only [Bool.and_eq_true] at h
      exact Snd2.of (snd_lst ((sndEs es sc _ h.2).args (noStar_all h.1))) rfl fun ρ S => by rw [evE] <;> rfl
    · cases h
  | .dic ks es, sc, pe, h => by
    simp only [chkE] at h
    split at h
    · rename_i dks ps pos
      simp only [Bool.and_eq_true] at h
      obtain ⟨h1, h2⟩ := h
      have hs := sndEs es sc ps h2
      split at h1
      · have e : ps = [] := List.isEmpty_iff.mp h1
        subst e
        cases hs
        exact Snd2.of snd_dic0 rfl fun ρ S => by rw [evE, evEs]
      · simp only [Bool.and_eq_true, decide_eq_true_eq, beq_iff_eq] at h1
        obtain ⟨e1, e2⟩ := h1
        subst e1
        obtain ⟨a, rfl⟩ := List.length_eq_one_iff.mp e2
        obtain ⟨e, e3, h3⟩ := hs.one
        subst e3
        exact Snd2.of (snd_dic1 h3) rfl fun ρ S => by simp only [evE, evEs, bnd_ok]
      · cases h1
    · cases h
  | .op o a b, sc, pe, h => by
    simp only [chkE] at h
    split at h
    · simp only [Bool.and_eq_true, decide_eq_true_eq] at h
      obtain ⟨⟨h1, h2⟩, h3⟩ := h
      have e := opN_o h1
      subst e
      exact Snd2.of (snd_op (sndE a sc _ h2).1 (sndE b sc _ h3).1) rfl fun ρ S => by rw [evE] <;> rfl
    · cases h
  | .neg a, sc, pe, h => by
    simp only [chkE] at h
    split at h
    · exact Snd2.of (snd_neg (sndE a sc _ h).1) rfl fun ρ S => by rw [evE] <;> rfl
    · cases h
  | .cmp c a b, sc, pe, h => by
    simp only [chkE] at h
    split at h
    · simp only [Bool.and_eq_true, decide_eq_true_eq, Bool.not_eq_true'] at h
      obtain ⟨⟨⟨h1, h2⟩, h3⟩, h4⟩ := h
      have e := cmN_o h1
      subst e
      obtain ⟨q1, q2⟩ := snd_cmp F (c := c) (sndE a sc _ h3).1 (sndE b sc _ h4).1 h2
      exact ⟨q1.congr fun ρ S => by rw [evE] <;> rfl, fun _ => q2.congr fun ρ S => by rw [evE] <;> rfl⟩
    · cases h
  | .chain c1 c2 a b c, sc, pe, h => by
    simp only [chkE] at h
    split at h
    · simp only [Bool.and_eq_true, decide_eq_true_eq, Bool.not_eq_true'] at h
      obtain ⟨⟨⟨⟨⟨h1, h2⟩, h3⟩, h4⟩, h5⟩, h6⟩ := h
      have e := cmN_o h1
      have e' := cmN_o h2
      subst e e'
      obtain ⟨q1, q2⟩ := snd_chain F (c1 := c1) (c2 := c2) (sndE a sc _ h4).1 (sndE b sc _ h5).1 (sndE c sc _ h6).1 h3
      exact ⟨q1.congr fun ρ S => by rw [evE] <;> rfl, fun _ => q2.congr fun ρ S => by rw [evE] <;> rfl⟩
    · cases h
  | .and es, sc, pe, h => by
    simp only [chkE] at h
    split at h
    · rename_i ps pos
      simp only [Bool.and_eq_true, Bool.not_eq_true'] at h
      obtain ⟨⟨h1, h2⟩, h3⟩ := h
      have hs := sndEs es sc ps h3
      obtain ⟨q1, q2⟩ := snd_and (pos := pos) hs (hs.ne (nempty h1)) (noIf_all h2)
      exact ⟨q1.congr fun ρ S => by rw [evE] <;> rfl, fun _ => q2.test.congr fun ρ S => by rw [evE] <;> rfl⟩
    · cases h
  | .or es, sc, pe, h => by
    simp only [chkE] at h
    split at h
    · rename_i ps pos
      simp only [Bool.and_eq_true, Bool.not_eq_true'] at h
      obtain ⟨⟨h1, h2⟩, h3⟩ := h
      have hs := sndEs es sc ps h3
      obtain ⟨q1, q2⟩ := snd_or (pos := pos) hs (hs.ne (nempty h1)) (noIf_all h2)
      exact ⟨q1.congr fun ρ S => by rw [evE] <;> rfl, fun _ => q2.test.congr fun ρ S => by rw [evE] <;> rfl⟩
    · cases h
  | .not a, sc, pe, h => by
    simp only [chkE] at h
    split at h
    · simp only [Bool.and_eq_true, Bool.not_eq_true'] at h
      have q := sndE a sc _ h.2
      obtain ⟨q1, q2⟩ := snd_not q.1 (q.2 h.1)
      exact ⟨q1.congr fun ρ S => by rw [evE] <;> rfl, fun _ => q2.congr fun ρ S => by rw [evE] <;> rfl⟩
    · cases h
  | .ite c a b, sc, pe, h => by
    simp only [chkE] at h
    split at h
    · simp only [Bool.and_eq_true, Bool.not_eq_true'] at h
      obtain ⟨⟨⟨h1, h2⟩, h3⟩, h4⟩ := h
      exact ⟨(snd_ite ((sndE c sc _ h2).2 h1) (sndE a sc _ h3).1 (sndE b sc _ h4).1).congr fun ρ S => by rw [evE] <;> rfl, fun z => nomatch z⟩
    · cases h
  | .ix a b, sc, pe, h => by
    simp only [chkE] at h
    split at h
    · simp only [Bool.and_eq_true, Bool.not_eq_true'] at h
      obtain ⟨⟨h1, h2⟩, h3⟩ := h
      exact Snd2.of (snd_ix (sndE a sc _ h2).1 (sndE b sc _ h3).1 h1) rfl fun ρ S => by rw [evE] <;> rfl
    · cases h
  | .slc a lo hi, sc, pe, h => by
    simp only [chkE] at h
    split at h
    · simp only [Bool.and_eq_true] at h
      obtain ⟨⟨h1, h2⟩, h3⟩ := h
      exact Snd2.of (snd_slc (sndE a sc _ h1).1 (sndO lo sc _ h2) (sndO hi sc _ h3)) rfl fun ρ S => by rw [evE] <;> rfl
    · cases h
  | .rev a, sc, pe, h => by
    simp only [chkE] at h
    split at h
    · rename_i a' st p3 pos
      simp only [Bool.and_eq_true] at h
      obtain ⟨h1, h2⟩ := h
      have hm : ∃ k p1 p2, st = .UnaryOp .USub (.Constant (.int 1) k p1) p2 := by
        unfold isM1 at h1
        split at h1
        · rename_i i k p1 p2
          have e := of_decide_eq_true h1
          subst e
          exact ⟨k, p1, p2, rfl⟩
        · cases h1
      obtain ⟨k, p1, p2, rfl⟩ := hm
      exact Snd2.of (snd_rev (sndE a sc _ h2).1) rfl fun ρ S => by rw [evE] <;> rfl
    · cases h
  | .call f es, sc, pe, h => by
    simp only [chkE] at h
    split at h
    · rename_i x p ps pos
      simp only [Bool.and_eq_true, decide_eq_true_eq, Bool.not_eq_true'] at h
      obtain ⟨⟨⟨⟨⟨h1, h2⟩, h3⟩, h4⟩, h5⟩, h6⟩ := h
      obtain ⟨Fd, e1, e2⟩ := map_eq h1
      have hs := sndEs es sc ps h6
      exact Snd2.of (snd_call C e1 e2 h2 h3 (nempty h4) (noStar_all h5) (hs.args (noStar_all h5))) rfl fun ρ S => by rw [evE] <;> rfl
    · cases h
  | .bi b es, sc, pe, h => by
    simp only [chkE] at h
    split at h
    · rename_i x p ps pos
      simp only [Bool.and_eq_true] at h
      obtain ⟨⟨h1, h2⟩, h3⟩ := h
      split at h3
      · split at h3
        · rename_i t _ a y p2
          simp only [Bool.and_eq_true, decide_eq_true_eq] at h3
          obtain ⟨⟨⟨g1, g2⟩, g3⟩, g4⟩ := h3
          subst g1
          obtain ⟨e, e3, h5⟩ := (sndEs es sc _ g4).one
          subst e3
          obtain ⟨k1, k2, k3⟩ := tyNm_ok g3
          exact Snd2.of (snd_isi F h5 (noStar_all h2 _ List.mem_cons_self) k1 k2 k3 h1 g2) rfl fun ρ S => by simp only [evE, evEs, bnd_ok]
        · cases h3
      · split at h3
        · simp only [Bool.and_eq_true, decide_eq_true_eq, Bool.not_eq_true'] at h3
          obtain ⟨⟨⟨⟨⟨g1, g2⟩, g3⟩, g4⟩, g5⟩, g6⟩ := h3
          subst g1 g2
          obtain ⟨e, f, e3, h5, h6⟩ := (sndEs es sc _ g6).two
          subst e3
          exact Snd2.of (snd_rng F h5 h6 g4 g5 h1 g3) rfl fun ρ S => by simp only [evE, evEs, bnd_ok, bnd_bnd]
        · cases h3
      · split at h3
        · simp only [Bool.and_eq_true, decide_eq_true_eq, Bool.not_eq_true'] at h3
          obtain ⟨⟨⟨⟨g1, g2⟩, g3⟩, g4⟩, g5⟩ := h3
          subst g1 g2
          obtain ⟨e, e3, h5⟩ := (sndEs es sc _ g5).one
          subst e3
          exact Snd2.of (snd_rng1 F h5 g4 h1 g3) rfl fun ρ S => by simp only [evE, evEs, bnd_ok]
        · cases h3
      · split at h3
        · simp only [Bool.and_eq_true, decide_eq_true_eq, Bool.not_eq_true'] at h3
          obtain ⟨⟨⟨⟨g1, g2⟩, g3⟩, g4⟩, g5⟩ := h3
          subst g1 g2
          obtain ⟨e, e3, h5⟩ := (sndEs es sc _ g5).one
          subst e3
          exact Snd2.of (snd_sset F h5 g4 h1 g3) rfl fun ρ S => by simp only [evE, evEs, bnd_ok]
        · cases h3
      · simp only [Bool.and_eq_true, decide_eq_true_eq, Bool.not_eq_true'] at h3
        obtain ⟨⟨g1, g2⟩, g3⟩ := h3
        exact Snd2.of (bi_plain F g1 h1 (nempty g2) (noStar_all h2) ((sndEs es sc _ g3).args (noStar_all h2))) rfl fun ρ S => by rw [evE] <;> rfl
    · cases h
  | .ext a b, sc, pe, h => by
    simp only [chkE] at h
    split at h
    · simp only [Bool.and_eq_true, decide_eq_true_eq, Bool.not_eq_true'] at h
      obtain ⟨⟨⟨⟨⟨h1, h2⟩, h3⟩, h4⟩, h5⟩, h6⟩ := h
      subst h1
      exact Snd2.of (snd_ext (sndE a sc _ h5).1 (sndE b sc _ h6).1 h2 h3 h4) rfl fun ρ S => by rw [evE] <;> rfl
    · cases h
  | .app a b, sc, pe, h => by
    simp only [chkE] at h
    split at h
    · simp only [Bool.and_eq_true, decide_eq_true_eq, Bool.not_eq_true'] at h
      obtain ⟨⟨⟨⟨⟨h1, h2⟩, h3⟩, h4⟩, h5⟩, h6⟩ := h
      subst h1
      exact Snd2.of (snd_app (sndE a sc _ h5).1 (sndE b sc _ h6).1 h2 h3 h4) rfl fun ρ S => by rw [evE] <;> rfl
    · cases h
  | .lc vs t k its cs elt, sc, pe, h => by
    simp only [chkE] at h
    split at h
    · rename_i elt' tg iter ifs asy scope pos
      simp only [Bool.and_eq_true, decide_eq_true_eq, Bool.not_eq_true'] at h
      obtain ⟨⟨⟨⟨⟨⟨⟨h0, h1⟩, h2⟩, h3⟩, h4⟩, h5⟩, h6⟩, h7⟩ := h
      subst h0
      split at h5
      · rename_i ps hk
        have ok : LcOk Γ n N sc elt' iter tg t ifs scope (vs.map fun i => (N.getD i "", i)) _ _ _ := ⟨hN, snd_it F hk (sndEs its sc ps h5), sndTs cs scope ifs h6, (sndE elt scope _ h7).1, blkOk_by h1, h2, fun i hi => by rw [own_snd]; exact of_decide_eq_true (List.all_eq_true.mp h3 i hi), h4⟩
        refine Snd2.of (snd_lc ok) rfl fun ρ S => ?_
        rw [own_snd]
        unfold lcF
        rw [evE]
        dsimp only
        cases q : evEs Γ.G (Γ.cal n) its ρ S with
        | none => rfl
        | some r =>
          cases r with
          | ex c v S1 => rfl
          | ok ds S1 =>
            simp only [bnd_ok]
            cases q2 : itD S1 k ds with
            | none => rfl
            | some w => rfl
      · cases h5
    · cases h
theorem sndEs : ∀ (es : List E) (sc : Scope) (ps : List Expr), chkEs N Γ.Gn Γ.T es sc ps = true → Sn Γ n N sc (evE Γ.G (Γ.cal n)) es ps
  | [], sc, ps, h => by
    simp only [chkEs] at h
    have e : ps = [] := List.isEmpty_iff.mp h
    subst e
    exact .nil
  | e :: es, sc, ps, h => by
    simp only [chkEs] at h
    split at h
    · cases h
    · simp only [Bool.and_eq_true] at h
      have q := sndE e sc _ h.1
      exact .cons q.1 q.2 (sndEs es sc _ h.2)
theorem sndTs : ∀ (cs : List E) (sc : Scope) (ifs : List Expr), chkTs N Γ.Gn Γ.T cs sc ifs = true → SndTs Γ n N sc ifs (fun ρ S => evTs Γ.G (Γ.cal n) cs ρ S)
  | [], sc, ifs, h => by
    simp only [chkTs] at h
    have e : ifs = [] := List.isEmpty_iff.mp h
    subst e
    intro E
    obtain ⟨t, h1, h2⟩ := snd_tsnil (Γ := Γ) (n := n) (N := N) (sc := sc) E
    exact ⟨t, h1, ref_congr h2 fun ρ S => by rw [evTs]⟩
  | e :: es, sc, ifs, h => by
    simp only [chkTs] at h
    split at h
    · simp only [Bool.and_eq_true, Bool.not_eq_true'] at h
      obtain ⟨⟨h1, h2⟩, h3⟩ := h
      have e2 : es = [] := List.isEmpty_iff.mp h2
      subst e2
      have q := (sndE e sc _ h3).2 h1
      intro E
      obtain ⟨t, g1, g2⟩ := snd_tsone q E
      refine ⟨t, g1, ref_congr g2 fun ρ S => ?_⟩
      simp only [evTs]
      cases tst (evE Γ.G (Γ.cal n) e ρ S) with
      | none => rfl
      | some r =>
        cases r with
        | ex c v S1 => rfl
        | ok b S1 => cases b <;> rfl
    · cases h
theorem sndO : ∀ (lo : Option E) (sc : Scope) (po : Option Expr), chkO N Γ.Gn Γ.T lo sc po = true → SndO Γ n N sc po (fun ρ S => evO Γ.G (Γ.cal n) lo ρ S)
  | none, sc, po, h => by
    simp only [chkO] at h
    cases po with
    | none =>
      intro E
      obtain ⟨t, h1, h2⟩ := snd_onone (Γ := Γ) (n := n) (N := N) (sc := sc) E
      exact ⟨t, h1, ref_congr h2 fun ρ S => by rw [evO] <;> rfl⟩
    | some _ => cases h
  | some e, sc, po, h => by
    simp only [chkO] at h
    split at h
    · intro E
      obtain ⟨t, h1, h2⟩ := snd_osome (sndE e sc _ h).1 E
      refine ⟨t, h1, ref_congr h2 fun ρ S => by rw [evO] <;> rfl⟩
    · cases h
end
end
end Mi

end
section
set_option Elab.async false
set_option linter.all false
set_option maxRecDepth 100000
set_option maxHeartbeats 2000000
/-! What the check tells: statements, defs, the calls. -/
namespace Mi
open PySem L2 PySem.Spec PyProof.Rows
/-- a comprehension that goes straight into a local of the same line -/
def swA (sc : Scope) (x : Str) (px : Pos) : Expr → Bool
  | .ListComp _ _ _ p => (sc.names.lookup x == some .local) && (px.line == p.line)
  | _ => false
def swAok (sc : Scope) (x : Str) : Expr → Bool
  | .ListComp _ _ scope _ => (match sc.kind with | .function => true | _ => false) && !(scope.names.any fun (n, k) => n == x && (k == .local || k == .cell))
  | _ => false
def isLC : Expr → Bool
  | .ListComp _ _ _ _ => true
  | _ => false
/-- a pair of locals that is stored without a tuple -/
def parOk (N : List Str) (sc : Scope) (t : Tg) (es : List Expr) (pe : Expr) : Bool := match t, es, pe with
  | .tup [i, j], [.Name x px, .Name y py], .Tuple [a, b] _ _ => ownSlot N sc x i && ownSlot N sc y j && !(i == j) && (match sc.kind with | .function => true | _ => false) && (sc.names.lookup x == some .local) && (sc.names.lookup y == some .local) &&
      (py.line == px.line) && !(y == x) && !isStar a && !isStar b && !([a, b].all (foldedForSure 8)) && !([a, b].all (constantsAlone 8))
  | _, _, _ => false
section
variable (N : List Str) (Gn : List (Str × D)) (T : List Fd)
mutual
def chkS : Sm → Scope → Stmt → Bool
  | .asg t e, sc, st => match st with
    | .Assign [tg] pe pos => chkE N Gn T e sc pe && (match tg with
      | .Name x px => (match t with | .one i => ownSlot N sc x i | _ => false) && (if swA sc x px pe = true then swAok sc x pe else (isLC pe || !isComp pe))
      | .Tuple es _ _ => (match t with | .tup _ => true | _ => false) && chkTg N sc tg t && (!isTupE pe || es.any (fun y => !(sc.names.lookup (nmOf y) == some .local)) || (parOk N sc t es pe && (match e with | .tup _ => true | _ => false)))
      | _ => false)
    | _ => false
  | .setIx o i e, sc, st => match st with
    | .Assign [.Subscript a b _] pe pos => !isSlcE b && !isComp pe && chkE N Gn T e sc pe && chkE N Gn T o sc a && chkE N Gn T i sc b
    | _ => false
  | .expr e, sc, st => match st with
    | .Expr pe _ => !isComp pe && chkE N Gn T e sc pe
    | _ => false
  | .ret e, sc, st => match st with
    | .Return (some pe) _ => chkE N Gn T e sc pe
    | _ => false
  | .ite c a b, sc, st => match st with
    | .If c' a' b' _ => !isIfE c' && chkE N Gn T c sc c' && chkSs a sc a' && chkSs b sc b'
    | _ => false
  | .for_ t k its body, sc, st => match st with
    | .For tg it b [] _ => chkTg N sc tg t && !isSetE it && (match itArgs sc k it with
        | some ps => chkEs N Gn T its sc ps
        | none => false) && chkSs body sc b
    | _ => false
  | .whl c body, sc, st => match st with
    | .While c' b [] _ => !isIfE c' && chkE N Gn T c sc c' && chkSs body sc b
    | _ => false
  | .never, _, _ => true
def chkSs : List Sm → Scope → List Stmt → Bool
  | [], sc, sts => sts.isEmpty
  | s :: ss, sc, sts => match sts with
    | [] => false
    | st :: sts => chkS s sc st && chkSs ss sc sts
end
end
section
variable {Γ : Gm} {n : Nat} {N : List Str}
theorem SndS.congr {sc : Scope} {st : Stmt} {f g : Loc → Sto → Option O} (h : SndS Γ n N sc st f) (e : ∀ ρ S, g ρ S = f ρ S) : SndS Γ n N sc st g := by
  have : g = f := by funext ρ S; exact e ρ S
  rw [this]; exact h
theorem SndSs.congr {sc : Scope} {st : List Stmt} {f g : Loc → Sto → Option O} (h : SndSs Γ n N sc st f) (e : ∀ ρ S, g ρ S = f ρ S) : SndSs Γ n N sc st g := by
  have : g = f := by funext ρ S; exact e ρ S
  rw [this]; exact h
variable (F : Γ.Facts) (C : Γ.Calls n) (hN : N.Nodup)
include F C hN
theorem lcOk_of {e : E} {sc : Scope} {elt' : Expr} {gs : List Comprehension} {scope : Scope} {pos : Pos} (h : chkE N Γ.Gn Γ.T e sc (.ListComp elt' gs scope pos) = true) :
    ∃ tg iter ifs t own fi fc fe, gs = [⟨tg, iter, ifs, 0⟩] ∧ LcOk Γ n N sc elt' iter tg t ifs scope own fi fc fe ∧ ∀ ρ S, evE Γ.G (Γ.cal n) e ρ S = lcF (own.map (·.2)) t fi fc fe ρ S := by
  cases e with
  | lc vs t k its cs elt =>
    simp only [chkE] at h
    split at h
    · rename_i elt2 tg iter ifs asy scope2 pos2 heq
      cases heq
      simp only [Bool.and_eq_true, decide_eq_true_eq, Bool.not_eq_true'] at h
      obtain ⟨⟨⟨⟨⟨⟨⟨h0, h1⟩, h2⟩, h3⟩, h4⟩, h5⟩, h6⟩, h7⟩ := h
      subst h0
      split at h5
      · rename_i ps hk
        refine ⟨tg, iter, ifs, t, vs.map fun i => (N.getD i "", i), _, _, _, rfl, ⟨hN, snd_it F hk (sndEs F C hN its sc ps h5), sndTs F C hN cs scope ifs h6, (sndE F C hN elt scope _ h7).1, blkOk_by h1, h2, fun i hi => by rw [own_snd]; exact of_decide_eq_true (List.all_eq_true.mp h3 i hi), h4⟩, fun ρ S => ?_⟩
        rw [own_snd]
        unfold lcF
        rw [evE]
        dsimp only
        cases q : evEs Γ.G (Γ.cal n) its ρ S with
        | none => rfl
        | some r =>
          cases r with
          | ex c v S1 => rfl
          | ok ds S1 =>
            simp only [bnd_ok]
            cases q2 : itD S1 k ds with
            | none => rfl
            | some w => rfl
      · cases h5
    · cases h
  | lit d => cases d <;> cases h
  | dic ks es => cases h
  | _ => cases h
theorem sndAsg {t : Tg} {e : E} {sc : Scope} {st : Stmt} (h : chkS N Γ.Gn Γ.T (.asg t e) sc st = true) : SndS Γ n N sc st (fun ρ S => ofE (evE Γ.G (Γ.cal n) e ρ S) fun d S1 => (setT ρ t d).map fun ρ1 => .nx ρ1 S1) := by
  simp only [chkS] at h
  split at h
  · rename_i tg pe pos
    simp only [Bool.and_eq_true] at h
    obtain ⟨h1, h2⟩ := h
    split at h2
    · rename_i x px
      simp only [Bool.and_eq_true] at h2
      obtain ⟨h2, h3⟩ := h2
      split at h2
      · rename_i i
        by_cases hw : swA sc x px pe = true
        · rw [if_pos hw] at h3
          cases pe with
          | ListComp elt gs scope p =>
            obtain ⟨tg, iter, ifs, t, own, fi, fc, fe, e1, ok, ev⟩ := lcOk_of F C hN h1
            subst e1
            have hw : (sc.names.lookup x == some .local && (px.line == p.line)) = true := hw
            have h3 : ((match sc.kind with | .function => true | _ => false) && !(scope.names.any fun (n, k) => n == x && (k == .local || k == .cell))) = true := h3
            simp only [Bool.and_eq_true, Bool.not_eq_true'] at hw h3
            have hk : sc.kind = .function := by
              have := h3.1
              split at this
              · assumption
              · cases this
            refine (snd_setLc ok h2 hk (eq_of_beq hw.1) hw.2 h3.2).congr fun ρ S => ?_
            rw [ev]
          | _ => cases hw
        · rw [if_neg hw] at h3
          refine snd_set hN h2 (sndE F C hN e sc pe h1).1 fun X gd => ?_
          by_cases hl : isLC pe = true
          · cases pe with
            | ListComp elt gs scope p =>
              refine sw_false ?_
              rw [gd.scope]
              exact Bool.eq_false_iff.mpr hw
            | _ => cases hl
          · rw [Bool.eq_false_iff.mpr hl, Bool.false_or, Bool.not_eq_true'] at h3
            exact sw_none h3 _ _ _
      · cases h2
    · rename_i es j p
      simp only [Bool.and_eq_true, Bool.or_eq_true, Bool.not_eq_true'] at h2
      obtain ⟨⟨h2, h3⟩, h4⟩ := h2
      split at h2
      · rename_i is
        rcases h4 with (h4 | h4) | h4
        · exact snd_tasg hN h3 (sndE F C hN e sc pe h1).1 (.inl h4)
        · obtain ⟨y, hy, hc⟩ := List.any_eq_true.mp h4
          exact snd_tasg hN h3 (sndE F C hN e sc pe h1).1 (.inr ⟨y, hy, by simpa using hc⟩)
        · obtain ⟨h4, h5⟩ := h4
          split at h5
          · rename_i es'
            unfold parOk at h4
            split at h4
            · rename_i t0 is0 pe0 i j' x px y py a b k2 p2 q1
              simp only [Bool.and_eq_true, Bool.not_eq_true'] at h4
              obtain ⟨⟨⟨⟨⟨⟨⟨⟨⟨⟨⟨g1, g2⟩, g3⟩, g4⟩, g5⟩, g6⟩, g7⟩, g8⟩, g9⟩, g10⟩, g11⟩, g12⟩ := h4
              cases q1
              simp only [chkE, Bool.and_eq_true] at h1
              have hk : sc.kind = .function := by
                split at g4
                · assumption
                · cases g4
              refine (snd_par hN g1 g2 (by simpa using g3) hk (eq_of_beq g5) (eq_of_beq g6) g7 g8 g9 g10 g11 g12 ((sndEs F C hN es' sc _ h1.2).args (noStar_all h1.1))).congr fun ρ S => ?_
              rw [evE]
            · cases h4
          · cases h5
      · cases h2
    · cases h2
  · cases h
mutual
theorem sndS : ∀ (s : Sm) (sc : Scope) (st : Stmt), chkS N Γ.Gn Γ.T s sc st = true → SndS Γ n N sc st (fun ρ S => exS Γ.G Γ.W (Γ.cal n) s ρ S)
  | .asg t e, sc, st, h => (sndAsg F C hN h).congr fun ρ S => by rw [exS]
  | .setIx o i e, sc, st, h => by
    simp only [chkS] at h
    split at h
    · simp only [Bool.and_eq_true, Bool.not_eq_true'] at h
      obtain ⟨⟨⟨⟨h1, h2⟩, h3⟩, h4⟩, h5⟩ := h
      exact (snd_setIx (sndE F C hN o sc _ h4).1 (sndE F C hN i sc _ h5).1 (sndE F C hN e sc _ h3).1 h1 h2).congr fun ρ S => by rw [exS] <;> rfl
    · cases h
  | .expr e, sc, st, h => by
    simp only [chkS] at h
    split at h
    · simp only [Bool.and_eq_true, Bool.not_eq_true'] at h
      exact (snd_expr (sndE F C hN e sc _ h.2).1 h.1).congr fun ρ S => by rw [exS]
    · cases h
  | .ret e, sc, st, h => by
    simp only [chkS] at h
    split at h
    · exact (snd_ret (sndE F C hN e sc _ h).1).congr fun ρ S => by rw [exS]
    · cases h
  | .ite c a b, sc, st, h => by
    simp only [chkS] at h
    split at h
    · simp only [Bool.and_eq_true, Bool.not_eq_true'] at h
      obtain ⟨⟨⟨h1, h2⟩, h3⟩, h4⟩ := h
      exact (snd_if ((sndE F C hN c sc _ h2).2 h1) (sndSs a sc _ h3) (sndSs b sc _ h4)).congr fun ρ S => by rw [exS] <;> rfl
    · cases h
  | .for_ t k its body, sc, st, h => by
    simp only [chkS] at h
    split at h
    · rename_i tg it b pos
      simp only [Bool.and_eq_true, Bool.not_eq_true'] at h
      obtain ⟨⟨⟨h1, h2⟩, h3⟩, h4⟩ := h
      split at h3
      · rename_i ps hk
        refine (snd_for hN (snd_it F hk (sndEs F C hN its sc ps h3)) h1 (sndSs body sc b h4) h2).congr fun ρ S => ?_
        rw [exS]
        cases q : evEs Γ.G (Γ.cal n) its ρ S with
        | none => rfl
        | some r =>
          cases r with
          | ex c v S1 => rfl
          | ok ds S1 =>
            simp only [bnd_ok]
            cases q2 : itD S1 k ds with
            | none => rfl
            | some w => rfl
      · cases h3
    · cases h
  | .whl c body, sc, st, h => by
    simp only [chkS] at h
    split at h
    · simp only [Bool.and_eq_true, Bool.not_eq_true'] at h
      obtain ⟨⟨h1, h2⟩, h3⟩ := h
      exact (snd_whl ((sndE F C hN c sc _ h2).2 h1) (sndSs body sc _ h3)).congr fun ρ S => by rw [exS]
    · cases h
  | .never, sc, st, h => snd_never.congr fun ρ S => by rw [exS]
theorem sndSs : ∀ (ss : List Sm) (sc : Scope) (sts : List Stmt), chkSs N Γ.Gn Γ.T ss sc sts = true → SndSs Γ n N sc sts (fun ρ S => exSs Γ.G Γ.W (Γ.cal n) ss ρ S)
  | [], sc, sts, h => by
    simp only [chkSs] at h
    have e : sts = [] := List.isEmpty_iff.mp h
    subst e
    exact snd_snil.congr fun ρ S => by rw [exSs]
  | s :: ss, sc, sts, h => by
    simp only [chkSs] at h
    split at h
    · cases h
    · simp only [Bool.and_eq_true] at h
      exact (snd_scons (sndS s sc _ h.1) (sndSs ss sc _ h.2)).congr fun ρ S => by rw [exSs] <;> rfl
end
end
/-! ### defs -/
/-- a def's text: its slots' names, its parameters, its scope, its body -/
structure FnC where
  N : List Str
  ps : List Str
  sc : Scope
  body : List Stmt
def fscC (N ps : List Str) (sc : Scope) : Bool := (match sc.kind with | .function => true | _ => false) && !sc.isCoroutine && !sc.isGenerator && decide N.Nodup && decide (N.take ps.length = ps) && ps.all (fun x => isOwn (sc.names.lookup x)) && sc.names.all (fun y => match y.2 with | .free => false | _ => true)
def chkFn (Gn : List (Str × D)) (T : List Fd) (c : FnC) (f : Fd) : Bool := fscC c.N c.ps c.sc && (f.np == c.ps.length) && (f.ns == c.N.length) && chkSs c.N Gn T f.body c.sc c.body
theorem fscC_ok {N ps : List Str} {sc : Scope} (h : fscC N ps sc = true) : FnScope N ps sc := by
  unfold fscC at h
  simp only [Bool.and_eq_true, Bool.not_eq_true', decide_eq_true_eq, List.all_eq_true] at h
  obtain ⟨⟨⟨⟨⟨⟨h1, h2⟩, h3⟩, h4⟩, h5⟩, h6⟩, h7⟩ := h
  refine ⟨?_, h2, h3, h4, h5, fun x hx => ?_, fun y hy e => ?_⟩
  · split at h1
    · assumption
    · cases h1
  · have q := h6 x hx
    cases z : sc.names.lookup x with
    | none => rw [z] at q; cases q
    | some k =>
      rw [z] at q
      cases k <;> first | exact .inl rfl | exact .inr rfl | cases q
  · have q := h7 y hy
    rw [e] at q
    cases q
/-- where each def lies -/
structure Gm.Lies (Γ : Gm) (f : Fd) (c : FnC) : Prop where
  lie : ∃ a fd nm qual prm, Γ.mg f.name = some (.ref a) ∧ FunD Γ.K nm qual prm c.body c.sc [] [] a fd ∧ Binds Γ.K fd c.ps []
  chk : chkFn Γ.Gn Γ.T c f = true
theorem start_vo {K : PySem.W.Frag} {m : List Addr} {H : Hp} {ds : List D} {vs : List V} {N : List Str} (h : VRs K m H ds vs) : VO K m H (ds.map some ++ List.replicate (N.length - ds.length) none) (L2.start N vs) := by
  have hl := h.length
  refine ⟨by unfold L2.start; simp [hl], fun i d q => ?_⟩
  by_cases hi : i < ds.length
  · rw [List.getElem?_append_left (by simpa using hi), List.getElem?_map] at q
    obtain ⟨d', e1, e2⟩ := map_eq q
    cases e2
    obtain ⟨v, h1, h2⟩ := h.get e1
    refine ⟨v, ?_, h2⟩
    unfold L2.start
    rw [List.getElem?_append_left (by simp [hl]; exact hi), List.getElem?_map, h1]
    rfl
  · rw [List.getElem?_append_right (by simpa using hi)] at q
    have := List.mem_of_getElem? q
    simp at this
theorem def_snd {Γ : Gm} {n : Nat} (F : Γ.Facts) (C : Γ.Calls n) {f : Nat} {Fx : Fd} {c : FnC} (hT : Γ.T[f]? = some Fx) {a : Addr} {fd : FuncData} {nm qual : Str} {prm : Arguments} (hd : FunD Γ.K nm qual prm c.body c.sc [] [] a fd) (hc : chkFn Γ.Gn Γ.T c Fx = true) :
    FnG Γ.P Γ.w Γ.K Γ.mg Γ.base (n + 1) a fd c.ps (Γ.sp (n + 1) f) := by
  unfold chkFn at hc
  simp only [Bool.and_eq_true, beq_iff_eq] at hc
  obtain ⟨⟨⟨h1, h2⟩, h3⟩, h4⟩ := hc
  have S := fscC_ok h1
  have lens : ∀ vs H Q E, Γ.sp (n + 1) f vs H Q E → vs.length = c.ps.length := by
    rintro vs H Q E ⟨m, St, ds, r, rel, hv, hr, _⟩
    unfold Gm.cal at hr
    rw [calF, hT] at hr
    dsimp only at hr
    split at hr
    · rename_i hl
      rw [hv.length, hl, h2]
    · cases hr
  refine fnG_of hd S lens ?_
  rintro cd A out s H vs Q E hg hr ⟨m, St, ds, r, rel, hv, hcal, hp⟩
  obtain ⟨t, g1, g2⟩ := sndSs F C S.nd Fx.body c.sc c.body h4 E
  refine ⟨t, ?_, ?_⟩
  · refine g1 _ ⟨⟨rfl, rfl, rfl, rfl, rfl, rfl, rfl, hr, hg, fun x k h => .inl h, fun x _ => .inl rfl⟩, ?_, rfl⟩ ?_
    · exact PassesOwn.leaving
    · exact passes_call (takes_of (X := cxOf (L2.CX Γ.P Γ.w) Γ.P Γ.w Γ.K Γ.mg Γ.base c.N qual c.sc a cd A out s H E) rfl rfl rfl rfl) fun _ _ _ _ z => z
  · unfold Gm.cal at hcal
    rw [calF, hT] at hcal
    dsimp only at hcal
    obtain ⟨hl, hcal⟩ := if_some' hcal
    cases q : exSs Γ.G Γ.W (calF Γ.G Γ.W Γ.T n) Fx.body (ds.map some ++ List.replicate (Fx.ns - ds.length) none) St with
    | none => rw [q] at hcal; cases hcal
    | some o =>
      rw [q] at hcal
      rw [h3] at q
      refine g2 m H St _ _ o _ rel (start_vo hv) q ?_
      cases o with
      | nx ρ1 S1 =>
        cases hcal
        exact fun σ' H' m' e rel' _ => hp .non H' m' e rel' rfl
      | rt d S1 => cases hcal; exact hp
      | ex k v S1 => cases hcal; exact hp
theorem calls_all {Γ : Gm} (F : Γ.Facts) (h : ∀ (f : Nat) (Fx : Fd), Γ.T[f]? = some Fx → ∃ c, Γ.Lies Fx c) : ∀ n, Γ.Calls n
  | 0 => by
    intro f Fx hT
    obtain ⟨c, ⟨a, fd, nm, qual, prm, l1, l2, l3⟩, hc⟩ := h f Fx hT
    have np : c.ps.length = Fx.np := by
      unfold chkFn at hc
      simp only [Bool.and_eq_true, beq_iff_eq] at hc
      exact hc.1.1.2.symm
    refine ⟨a, fd, c.ps, l1, l2.kp, l3, np, ⟨?_, ?_⟩⟩
    · rintro vs H Q E ⟨m, St, ds, r, rel, hv, hr, _⟩
      cases hr
    · rintro A out s H us vs Q E _ _ _ _ _ ⟨m, St, ds, r, rel, hv, hr, _⟩
      cases hr
  | n + 1 => by
    intro f Fx hT
    obtain ⟨c, ⟨a, fd, nm, qual, prm, l1, l2, l3⟩, hc⟩ := h f Fx hT
    have np : c.ps.length = Fx.np := by
      unfold chkFn at hc
      simp only [Bool.and_eq_true, beq_iff_eq] at hc
      exact hc.1.1.2.symm
    exact ⟨a, fd, c.ps, l1, l2.kp, l3, np, def_snd F (calls_all F h n) hT l2 hc⟩
end Mi

end
section
set_option Elab.async false
set_option linter.all false
set_option maxRecDepth 100000
set_option maxHeartbeats 2000000
/-! A law's end, over the head's facts. -/
namespace Mi
open PySem L2 PySem.Spec PyProof.Rows
/-! ### the Hook: the defs and names, and that the table of modules is a dict -/
def sysB (g : Addr → Option Obj) : Bool := match g sysModules with
  | some o => decide (o.cls = .type "dict")
  | none => false
theorem sysB_ok {h : Heap} (e : sysB h.get? = true) : SysOk h := by
  unfold sysB at e
  split at e
  · rename_i o q
    exact ⟨o, q, of_decide_eq_true e⟩
  · cases e
def obsS (n : Nat) (fa : List He.Fa) (fn : List He.DefD) (g : Addr → Option Obj) : He.AlD × Bool := (He.obsDG n fa fn g, sysB g)
def hookS (n : Nat) (fa : List He.Fa) (fn : List He.DefD) : PySem.W.Hook where
  α := He.AlD × Bool
  obs := fun s => obsS n fa fn s.heap.get?
  val := fun _ => (He.valD fn, true)
  says := fun _ h => SysOk h ∧ ∃ K : PySem.W.Frag, K.In h ∧ He.SaysD fa fn K
  of := fun w s e => ⟨sysB_ok (congrArg Prod.snd e), _, He.frG_in, congrArg Prod.fst e⟩
  keeps := fun _ _ _ ⟨⟨o, e1, e2⟩, K, hK, c⟩ k => ⟨⟨o, k _ _ e1, e2⟩, K, PySem.W.Frag.In.keeps hK k, c⟩
theorem obsS_eq {n : Nat} {fa : List He.Fa} {fn : List He.DefD} {g : Addr → Option Obj} {s : Shared} (h : ∀ a, g a = s.heap.get? a) : obsS n fa fn g = (hookS n fa fn).obs s := by
  have e : g = s.heap.get? := funext h
  rw [e] <;> rfl
/-! ### the text's data -/
def conFa : Str × D → He.Fa
  | (x, .int i) => .int x i
  | (x, .str z) => .str x z
  | (x, _) => .glo x
def conOk : D → Bool
  | .int _ => true
  | .str _ => true
  | _ => false
def faOf (fn : List He.DefD) (Gn : List (Str × D)) : List He.Fa := fn.map (fun d => .glo d.name) ++ freeNames.map .free ++ Gn.map conFa
def chkD (d : He.DefD) : Bool := decide (d.at_ = (d.name, none)) && d.dfl.isEmpty && d.kwd.isEmpty
def chkAll (Gn : List (Str × D)) (T : List Fd) : List He.DefD → List Fd → List (List Str × List Str) → Bool
  | d :: ds, f :: fs, p :: ps => decide (f.name = d.name) && chkD d && chkFn Gn T ⟨p.1, p.2, d.scope, d.body⟩ f && chkAll Gn T ds fs ps
  | [], [], [] => true
  | _, _, _ => false
def OneBinds (d : He.DefD) (ps : List Str) : Prop := ∀ K a fd, FunD K d.name d.qual d.params d.body d.scope [] [] a fd → Binds K fd ps []
def AllBinds : List He.DefD → List (List Str × List Str) → Prop
  | d :: ds, p :: ps => OneBinds d p.2 ∧ AllBinds ds ps
  | _, _ => True
theorem chkAll_at {Gn : List (Str × D)} {T : List Fd} : ∀ {ds : List He.DefD} {fs : List Fd} {ps : List (List Str × List Str)} {i : Nat} {f : Fd}, chkAll Gn T ds fs ps = true → AllBinds ds ps → fs[i]? = some f →
    ∃ (d : He.DefD) (p : List Str × List Str), ds[i]? = some d ∧ ps[i]? = some p ∧ f.name = d.name ∧ chkD d = true ∧ chkFn Gn T ⟨p.1, p.2, d.scope, d.body⟩ f = true ∧ OneBinds d p.2
  | [], [], [], i, f, _, _, h => by simp at h
  | d :: ds, f :: fs, p :: ps, 0, g, hc, hb, h => by
    simp only [chkAll, Bool.and_eq_true, decide_eq_true_eq] at hc
    simp at h
    subst h
    exact ⟨d, p, rfl, rfl, hc.1.1.1, hc.1.1.2, hc.1.2, hb.1⟩
  | d :: ds, f :: fs, p :: ps, i + 1, g, hc, hb, h => by
    simp only [chkAll, Bool.and_eq_true] at hc
    obtain ⟨d', p', h1, h2, h3⟩ := chkAll_at (i := i) hc.2 hb.2 (by simpa using h)
    exact ⟨d', p', by simpa using h1, by simpa using h2, h3⟩
  | [], [], _ :: _, _, _, hc, _, _ => by cases hc
  | [], _ :: _, _, _, _, hc, _, _ => by cases hc
  | _ :: _, [], _, _, _, hc, _, _ => by cases hc
  | _ :: _, _ :: _, [], _, _, hc, _, _ => by cases hc
theorem fact_of {fa : List He.Fa} {fn : List He.DefD} {K : PySem.W.Frag} (c : He.SaysD fa fn K) {f : He.Fa} (h : f ∈ fa) : f.ok K = true := by
  have c1 := (He.ba (show ((fa.all fun f => f.ok K) && fn.all fun d => d.ok K) = true from congrArg (fun z : He.AlD => z.1) c)).1
  exact List.all_eq_true.mp c1 f h
section
variable {l : PySem.W.OpenLaw} {fn : List He.DefD} {Gn : List (Str × D)} {T : List Fd} {NP : List (List Str × List Str)} {W0 k L n : Nat} {x : Str}
/-- a law's walk: the text is the small language's, and that answers True -/
theorem law_end {q : Program} {loose : List Str} {XP : (Str → Option Value) → Heap → Prop} {d : DefRec} {dl : He.DefD} (hcon : (Gn.all fun q => conOk q.2) = true) (hc : chkAll Gn T fn T NP = true) (hb : AllBinds fn NP) (hL : fn[L]? = some dl) (hLn : dl.name = d.name)
    (hlb : ∀ K a fd, FunD K dl.name dl.qual dl.params dl.body dl.scope [] [] a fd → ∀ (s : Shared) (u : Value), BindsTo s fd ⟨[u], []⟩ [(x, u)]) (hps : ∀ p, NP[L]? = some p → p.2 = [x]) (hn : l.most = some n) (hn2 : n ≤ sizeLine) (hdf : d.params.defaults = []) (hr : Room (k + 1) callerA)
    (hlen : fn.length = T.length) (pure_ : ∀ ns : List Int, ns.length ≤ n → ∃ S, calF (Gn.map (·.2)) W0 T (k + 1) L [.frz (ns.map D.int)] [] = some (.ok (.bl true) S)) :
    PySem.W.WalkO q loose XP (hookS 4 (faOf fn Gn) fn).says l.row.toRowW d [] (fun f vs => PySem.call f vs) := by
  refine walk_G (n := n) (k := k + 1) (x := x) hn hn2 hdf hr ?_
  rintro w mg fa h ⟨sy, K, KX, c⟩ G hmg
  -- the facts, over any base
  have facts : ∀ base : Heap, SysOk base → (Gm.mk l.prog w K mg base [] Gn W0 T).Facts := fun base sb => by
    refine ⟨sb, fun i y dd e => ?_, fun y hy => ?_⟩
    · have hm := List.mem_of_getElem? (show Gn[i]? = some (y, dd) from e)
      have ok := List.all_eq_true.mp hcon _ hm
      have fk := fact_of c (f := conFa (y, dd)) (List.mem_append_right _ (List.mem_map_of_mem hm))
      cases dd with
      | int j =>
        obtain ⟨t, z⟩ := He.int_ok KX G fk
        exact ⟨rfl, _, z, t, rfl⟩
      | str zz =>
        obtain ⟨t, z⟩ := He.str_ok KX G fk
        exact ⟨rfl, _, z, t, rfl⟩
      | _ => cases ok
    · exact He.free_ok KX G (fact_of c (f := .free y) (List.mem_append_left _ (List.mem_append_right _ (List.mem_map_of_mem hy))))
  have lies : ∀ base : Heap, ∀ (f : Nat) (Fx : Fd), T[f]? = some Fx → ∃ cc, (Gm.mk l.prog w K mg base [] Gn W0 T).Lies Fx cc ∧ ∀ dd, fn[f]? = some dd → cc.sc = dd.scope ∧ cc.body = dd.body := fun base f Fx hT => by
    obtain ⟨dd, p, e1, e0, e2, e3, e4, e5⟩ := chkAll_at hc hb hT
    unfold chkD at e3
    simp only [Bool.and_eq_true, decide_eq_true_eq, List.isEmpty_iff] at e3
    obtain ⟨⟨a1, a2⟩, a3⟩ := e3
    obtain ⟨fd, FD⟩ := c.def_ f e1
    have z1 : dd.dvs K = [] := by unfold He.DefD.dvs; rw [a2]; rfl
    have z2 : dd.kws K = [] := by unfold He.DefD.kws; rw [a3]; rfl
    rw [z1, z2] at FD
    have gm := He.glo_ok KX G (fact_of c (f := .glo dd.name) (List.mem_append_left _ (List.mem_append_left _ (List.mem_map_of_mem (f := fun d : He.DefD => He.Fa.glo d.name) (List.mem_of_getElem? e1)))))
    have ea : He.fAd K dd.at_ = He.ga K dd.name := by rw [a1]; rfl
    rw [ea] at FD
    exact ⟨⟨p.1, p.2, dd.scope, dd.body⟩, ⟨⟨He.ga K dd.name, fd, dd.name, dd.qual, dd.params, by rw [e2]; exact gm, FD, e5 K _ fd FD⟩, e4⟩, fun d2 z => by rw [e1] at z; cases z; exact ⟨rfl, rfl⟩⟩
  -- the law's own def
  have hLt : L < T.length := by rw [← hlen]; exact (List.getElem?_eq_some_iff.mp hL).1
  have hTL : T[L]? = some T[L] := List.getElem?_eq_getElem hLt
  obtain ⟨dd, p, e1, e0, e2, e3, e4, e5⟩ := chkAll_at hc hb hTL
  rw [hL] at e1
  cases e1
  unfold chkD at e3
  simp only [Bool.and_eq_true, decide_eq_true_eq, List.isEmpty_iff] at e3
  obtain ⟨⟨a1, a2⟩, a3⟩ := e3
  obtain ⟨fd, FD⟩ := c.def_ L hL
  have z1 : dl.dvs K = [] := by unfold He.DefD.dvs; rw [a2]; rfl
  have z2 : dl.kws K = [] := by unfold He.DefD.kws; rw [a3]; rfl
  rw [z1, z2] at FD
  have ea : He.fAd K dl.at_ = He.ga K dl.name := by rw [a1]; rfl
  rw [ea] at FD
  have gm := He.glo_ok KX G (fact_of c (f := .glo dl.name) (List.mem_append_left _ (List.mem_append_left _ (List.mem_map_of_mem (f := fun d : He.DefD => He.Fa.glo d.name) (List.mem_of_getElem? hL)))))
  rw [hLn] at gm
  rw [hmg] at gm
  cases gm
  rw [← hLn] at *
  refine ⟨K, fd, (Gm.mk l.prog w K mg h [] Gn W0 T).sp (k + 1) L, KX, sy, hlb K _ fd FD, fun H a ns hl hz => ?_, fun base sb kb nb => ?_⟩
  · obtain ⟨S, e⟩ := pure_ ns hl
    refine ⟨[], [], [.frz (ns.map D.int)], _, ⟨rfl, fun i j a q => by simp at q, fun i a o q => by simp at q⟩, VRs.cons ⟨a, ns.map V.int, rfl, hz, VRs.ints ns⟩ VRs.nil, e, ?_⟩
    exact fun v H' m' _ _ hv => hv
  · have C : (Gm.mk l.prog w K mg base [] Gn W0 T).Calls k := calls_all (facts base sb) (fun f Fx hT => let ⟨cc, h1, _⟩ := lies base f Fx hT; ⟨cc, h1⟩) k
    have z := def_snd (facts base sb) C hTL FD e4
    have ep := hps p e0
    rw [ep] at z
    exact z
end
end Mi

end
section
set_option Elab.async false
set_option linter.all false
set_option maxRecDepth 100000
set_option maxHeartbeats 1000000
/-! repr tells its value: plain data of equal text are equal. -/
namespace Mi
open PySem PySem.Spec
/-- a text that repr only quotes -/
def plainC (c : Nat) : Bool := decide (32 ≤ c) && decide (c ≤ 126) && !(c == 39) && !(c == 92)
def plainS (x : Str) : Bool := x.cps.toList.all plainC
mutual
def Pl : PyData → Bool
  | .none => true
  | .bool _ => true
  | .int _ => true
  | .str x => plainS x
  | .list xs => Pls xs
  | .tuple xs => Pls xs
  | .dict kvs => PlKv kvs
def Pls : List PyData → Bool
  | [] => true
  | x :: xs => Pl x && Pls xs
def PlKv : List (PyData × PyData) → Bool
  | [] => true
  | (k, v) :: r => Pl k && Pl v && PlKv r
end
def sh (p : PyData) : List Nat := TL.tl p.shown
/-! ### joins -/
def jn : List (List Nat) → List Nat
  | [] => []
  | [x] => x
  | x :: y :: r => x ++ 44 :: 32 :: jn (y :: r)
theorem tl_sep : TL.tl ((", " : String) : Str) = [44, 32] := by rw [TL.tl_ofString]; rfl
theorem tl_join : ∀ ts : List Str, TL.tl (Str.join ", " ts) = jn (ts.map TL.tl)
  | [] => rfl
  | [x] => rfl
  | x :: y :: r => by
    show TL.tl (x ++ ", " ++ Str.join ", " (y :: r)) = _
    rw [TL.tl_append, TL.tl_append, tl_sep, tl_join (y :: r)]
    simp [jn]
theorem tl_from : ∀ (ts : List Str) (k : Nat) (acc : Str), TL.tl (textFrom (k + 1) acc ts) = TL.tl acc ++ (ts.map fun t => 44 :: 32 :: TL.tl t).flatten
  | [], k, acc => by simp [textFrom]
  | t :: r, k, acc => by
    show TL.tl (textFrom (k + 1 + 1) (acc ++ (if k + 1 > 0 then ", " else "" : String) ++ t) r) = _
    rw [tl_from r (k + 1), TL.tl_append, TL.tl_append, if_pos (by omega), tl_sep]
    simp
theorem jn_flat : ∀ (x : List Nat) (r : List (List Nat)), jn (x :: r) = x ++ (r.map fun t => 44 :: 32 :: t).flatten
  | x, [] => by simp [jn]
  | x, y :: r => by
    rw [jn, jn_flat y r]
    simp
theorem sh_list (xs : List PyData) : sh (.list xs) = 91 :: (jn (xs.map sh) ++ [93]) := by
  have e : PyData.shownAll xs = xs.map PyData.shown := by
    induction xs with
    | nil => rfl
    | cons x r ih => rw [PyData.shownAll, ih, List.map_cons]
  unfold sh
  rw [PyData.shown, e]
  unfold listText
  rw [TL.tl_append]
  have e2 : TL.tl ((("]" : String) : Str)) = [93] := by rw [TL.tl_ofString]; rfl
  have e3 : TL.tl ((("[" : String) : Str)) = [91] := by rw [TL.tl_ofString]; rfl
  rw [e2]
  cases xs with
  | nil => simp [textFrom, e3, jn]
  | cons x r =>
    show TL.tl (textFrom (0 + 1) (("[" : Str) ++ (if 0 > 0 then ", " else "" : String) ++ x.shown) (r.map PyData.shown)) ++ [93] = _
    have e4 : TL.tl (((if 0 > 0 then ", " else "" : String)) : Str) = [] := by rw [TL.tl_ofString]; rfl
    rw [tl_from, TL.tl_append, TL.tl_append, e4, e3, List.map_cons, jn_flat]
    simp [List.map_map, Function.comp_def]
theorem sh_tuple (xs : List PyData) : sh (.tuple xs) = 40 :: (jn (xs.map sh) ++ (if xs.length == 1 then [44, 41] else [41])) := by
  have e : PyData.shownAll xs = xs.map PyData.shown := by
    induction xs with
    | nil => rfl
    | cons x r ih => rw [PyData.shownAll, ih, List.map_cons]
  unfold sh
  rw [PyData.shown, e]
  unfold tupleText
  rw [TL.tl_append, TL.tl_append, tl_join, List.map_map, List.length_map]
  have e2 : TL.tl ((("(" : String) : Str)) = [40] := by rw [TL.tl_ofString]; rfl
  rw [e2, TL.tl_ofString]
  cases h : (xs.length == 1) <;> simp [Function.comp_def] <;> rfl
theorem sh_dict (kvs : List (PyData × PyData)) : sh (.dict kvs) = 123 :: (jn (kvs.map fun q => sh q.1 ++ 58 :: 32 :: sh q.2) ++ [125]) := by
  have e : PyData.shownKv kvs = kvs.map fun q => ((q.1.shown ++ (": " : Str) ++ q.2.shown : Str)) := by
    induction kvs with
    | nil => rfl
    | cons x r ih =>
      obtain ⟨k, v⟩ := x
      rw [PyData.shownKv, ih, List.map_cons]
  have e1 : TL.tl (((": " : String) : Str)) = [58, 32] := by rw [TL.tl_ofString]; rfl
  unfold sh
  rw [PyData.shown, e]
  unfold dictText
  rw [TL.tl_append, TL.tl_append, tl_join, List.map_map]
  have e2 : TL.tl ((("{" : String) : Str)) = [123] := by rw [TL.tl_ofString]; rfl
  have e3 : TL.tl ((("}" : String) : Str)) = [125] := by rw [TL.tl_ofString]; rfl
  rw [e2, e3]
  have e4 : (TL.tl ∘ fun q : PyData × PyData => ((q.1.shown ++ (": " : Str) ++ q.2.shown : Str))) = fun q => TL.tl q.1.shown ++ 58 :: 32 :: TL.tl q.2.shown := by
    funext q
    show TL.tl (q.1.shown ++ (": " : Str) ++ q.2.shown) = _
    rw [TL.tl_append, TL.tl_append, e1]
    simp
  rw [e4]
  simp
/-! ### texts -/
theorem rep_plain {c : Nat} (h : plainC c = true) : Builtin.Str.reprChar 39 c = [c] := by
  unfold plainC at h
  simp only [Bool.and_eq_true, decide_eq_true_eq, Bool.not_eq_true', beq_eq_false_iff_ne] at h
  obtain ⟨⟨⟨h1, h2⟩, h3⟩, h4⟩ := h
  have hp : Unicode.isPrintable c = true := by
    rw [PyProof.Rows.cls_isprintable c (by omega)]
    have key : ∀ c, c < 127 → 32 ≤ c → PyProof.Rows.inR 32 126 ⟨#[c]⟩ = true := by decide +kernel
    exact key c (by omega) h1
  unfold Builtin.Str.reprChar
  have a1 : (c == 39 || c == 92) = false := by simp [h3, h4]
  have a2 : (c == 10) = false := by simp; omega
  have a3 : (c == 13) = false := by simp; omega
  have a4 : (c == 9) = false := by simp; omega
  simp only [a1, a2, a3, a4, hp, if_true, Bool.false_eq_true, if_false]
theorem fold_plain : ∀ (l : List Nat) (acc : Array Nat), l.all plainC = true → (l.foldl (fun out c => out ++ (Builtin.Str.reprChar 39 c).toArray) acc) = acc ++ l.toArray
  | [], acc, _ => by simp
  | c :: r, acc, h => by
    simp only [List.all_cons, Bool.and_eq_true] at h
    rw [List.foldl_cons, rep_plain h.1, fold_plain r _ h.2]
    simp
theorem sh_str {x : Str} (h : plainS x = true) : sh (.str x) = 39 :: (x.cps.toList ++ [39]) := by
  unfold plainS at h
  have hq : reprQuote x = 39 := by
    unfold reprQuote
    have : x.cps.contains 39 = false := by
      rw [← Array.contains_toList]
      refine Bool.eq_false_iff.mpr fun z => ?_
      have hm := List.contains_iff_mem.mp z
      have := List.all_eq_true.mp h 39 hm
      exact absurd this (by decide)
    rw [this]
    rfl
  unfold sh
  rw [PyData.shown]
  unfold reprText
  rw [hq]
  show ((x.cps.foldl (fun out c => out ++ (Builtin.Str.reprChar 39 c).toArray) #[39]).push 39).toList = _
  rw [← Array.foldl_toList, fold_plain _ _ h]
  simp
/-! ### numbers -/
def isD (c : Nat) : Prop := 48 ≤ c ∧ c ≤ 57
theorem sh_nat (m : Nat) : sh (.int (m : Int)) = (Nat.toDigits 10 m).map Char.toNat := by
  unfold sh
  rw [PyData.shown]
  exact PySem.W.KIN.signs_num m
theorem sh_neg (m : Nat) : sh (.int (Int.negSucc m)) = 45 :: (Nat.toDigits 10 (m + 1)).map Char.toNat := by
  unfold sh
  rw [PyData.shown, TL.tl_ofString]
  have e : (toString (Int.negSucc m)) = "-" ++ Nat.repr (m + 1) := rfl
  rw [e, String.toList_append, List.map_append, Nat.toList_repr]
  rfl
theorem digs_isD (m : Nat) : ∀ c ∈ (Nat.toDigits 10 m).map Char.toNat, isD c := by
  intro c hc
  obtain ⟨ch, hch, e⟩ := List.mem_map.mp hc
  have r := PyProof.Rows.digit_range (Nat.isDigit_of_mem_toDigits (by decide) (by decide) hch)
  rw [← e]
  exact r
theorem digs_ne (m : Nat) : (Nat.toDigits 10 m).map Char.toNat ≠ [] := by
  intro e
  have h := PySem.toDigits_len_ge 10 m
  rw [List.map_eq_nil_iff.mp e] at h
  exact absurd h (by decide)
theorem digs_inj {m n : Nat} (h : (Nat.toDigits 10 m).map Char.toNat = (Nat.toDigits 10 n).map Char.toNat) : m = n := by
  rw [← PySem.W.KIN.val_back m, ← PySem.W.KIN.val_back n, h]
/-! ### where a value ends -/
def stopC (c : Nat) : Prop := c = 44 ∨ c = 41 ∨ c = 93 ∨ c = 125 ∨ c = 58
def Stop : List Nat → Prop
  | [] => True
  | c :: _ => stopC c
theorem dig_split : ∀ {a b r s : List Nat}, (∀ c ∈ a, isD c) → (∀ c ∈ b, isD c) → Stop r → Stop s → a ++ r = b ++ s → a = b ∧ r = s
  | [], [], _, _, _, _, _, _, h => ⟨rfl, h⟩
  | [], d :: b, r, s, _, hb, hr, _, h => by
    have h : r = d :: (b ++ s) := h
    subst h
    have h1 := hb d List.mem_cons_self
    have h2 : stopC d := hr
    unfold isD at h1
    unfold stopC at h2
    omega
  | c :: a, [], r, s, ha, _, _, hs, h => by
    have h : c :: (a ++ r) = s := h
    subst h
    have h1 := ha c List.mem_cons_self
    have h2 : stopC c := hs
    unfold isD at h1
    unfold stopC at h2
    omega
  | c :: a, d :: b, r, s, ha, hb, hr, hs, h => by
    have h : c :: (a ++ r) = d :: (b ++ s) := h
    injection h with h1 h2
    obtain ⟨e1, e2⟩ := dig_split (fun x hx => ha x (List.mem_cons_of_mem _ hx)) (fun x hx => hb x (List.mem_cons_of_mem _ hx)) hr hs h2
    exact ⟨by rw [h1, e1], e2⟩
theorem quo_split : ∀ {a b r s : List Nat}, a.all plainC = true → b.all plainC = true → a ++ 39 :: r = b ++ 39 :: s → a = b ∧ r = s
  | [], [], _, _, _, _, h => by
    injection h with _ h
    exact ⟨rfl, h⟩
  | [], d :: b, r, s, _, hb, h => by
    have h : 39 :: r = d :: (b ++ 39 :: s) := h
    injection h with h1 _
    subst h1
    simp [plainC] at hb
  | c :: a, [], r, s, ha, _, h => by
    have h : c :: (a ++ 39 :: r) = 39 :: s := h
    injection h with h1 _
    subst h1
    simp [plainC] at ha
  | c :: a, d :: b, r, s, ha, hb, h => by
    have h : c :: (a ++ 39 :: r) = d :: (b ++ 39 :: s) := h
    injection h with h1 h2
    simp only [List.all_cons, Bool.and_eq_true] at ha hb
    obtain ⟨e1, e2⟩ := quo_split ha.2 hb.2 h2
    exact ⟨by rw [h1, e1], e2⟩
/-- the first sign tells the kind -/
def kindC : PyData → Nat
  | .none => 0
  | .bool _ => 1
  | .int _ => 2
  | .str _ => 3
  | .list _ => 4
  | .tuple _ => 5
  | .dict _ => 6
def kindOfC (c : Nat) : Nat := if c = 78 then 0 else if c = 84 ∨ c = 70 then 1 else if c = 45 ∨ (48 ≤ c ∧ c ≤ 57) then 2 else if c = 39 then 3 else if c = 91 then 4 else if c = 40 then 5 else if c = 123 then 6 else 7
theorem sh_head : ∀ (p : PyData), Pl p = true → ∃ c t, sh p = c :: t ∧ kindOfC c = kindC p ∧ ¬ stopC c
  | .none, _ => ⟨78, [111, 110, 101], by unfold sh; rw [PyData.shown, TL.tl_ofString]; rfl, rfl, by unfold stopC; omega⟩
  | .bool true, _ => ⟨84, [114, 117, 101], by unfold sh; rw [PyData.shown, if_pos rfl, TL.tl_ofString]; rfl, rfl, by unfold stopC; omega⟩
  | .bool false, _ => ⟨70, [97, 108, 115, 101], by unfold sh; rw [PyData.shown, if_neg Bool.false_ne_true, TL.tl_ofString]; rfl, rfl, by unfold stopC; omega⟩
  | .int (.ofNat m), _ => by
    have h1 := digs_isD m
    have h2 := digs_ne m
    have e := sh_nat m
    cases q : (Nat.toDigits 10 m).map Char.toNat with
    | nil => exact absurd q h2
    | cons c t =>
      rw [q] at h1 e
      have h3 := h1 c List.mem_cons_self
      unfold isD at h3
      refine ⟨c, t, e, ?_, by unfold stopC; omega⟩
      unfold kindOfC kindC
      rw [if_neg (by omega), if_neg (by omega), if_pos (.inr h3)]
  | .int (.negSucc m), _ => ⟨45, _, sh_neg m, rfl, by unfold stopC; omega⟩
  | .str x, h => ⟨39, _, sh_str (by simpa [Pl] using h), rfl, by unfold stopC; omega⟩
  | .list xs, _ => ⟨91, _, sh_list xs, rfl, by unfold stopC; omega⟩
  | .tuple xs, _ => ⟨40, _, sh_tuple xs, rfl, by unfold stopC; omega⟩
  | .dict xs, _ => ⟨123, _, sh_dict xs, rfl, by unfold stopC; omega⟩
end Mi

end
section
set_option Elab.async false
set_option linter.all false
set_option maxRecDepth 100000
set_option maxHeartbeats 1000000
namespace Mi
open PySem PySem.Spec
theorem kind_eq {p q : PyData} (hp : Pl p = true) (hq : Pl q = true) {r s : List Nat} (h : sh p ++ r = sh q ++ s) : kindC p = kindC q := by
  obtain ⟨c, t, e1, k1, _⟩ := sh_head p hp
  obtain ⟨d, u, e2, k2, _⟩ := sh_head q hq
  rw [e1, e2] at h
  have h : c :: (t ++ r) = d :: (u ++ s) := h
  injection h with h1 _
  rw [← k1, ← k2, h1]
theorem stop_cons {c : Nat} (h : stopC c) (r : List Nat) : Stop (c :: r) := h
theorem sh_stop {p : PyData} (h : Pl p = true) {r : List Nat} {k : Nat} {s : List Nat} (hk : stopC k) (e : sh p ++ r = k :: s) : False := by
  obtain ⟨c, t, e1, _, n1⟩ := sh_head p h
  rw [e1] at e
  have e : c :: (t ++ r) = k :: s := e
  injection e with e _
  subst e
  exact n1 hk
theorem jn_cons (x : List Nat) (xs : List (List Nat)) (r : List Nat) : jn (x :: xs) ++ r = x ++ ((xs.map fun t => 44 :: 32 :: t).flatten ++ r) := by
  rw [jn_flat, List.append_assoc]
/-- what follows an item -/
theorem tail_stop {xs : List (List Nat)} {k : Nat} {r : List Nat} (hk : stopC k) : Stop ((xs.map fun t => 44 :: 32 :: t).flatten ++ k :: r) := by
  cases xs with
  | nil => exact hk
  | cons x xs => exact Or.inl rfl
theorem cons_inj2 {a b c d : Nat} {r s : List Nat} (h : a :: b :: r = c :: d :: s) : r = s := by
  injection h with _ h
  injection h
mutual
theorem sh_inj : ∀ (p q : PyData) (r s : List Nat), Pl p = true → Pl q = true → Stop r → Stop s → sh p ++ r = sh q ++ s → p = q ∧ r = s
  | .none, q, r, s, hp, hq, hr, hs, h => by
    have k := kind_eq hp hq h
    cases q <;> first | cases k | skip
    exact ⟨rfl, List.append_cancel_left h⟩
  | .bool a, q, r, s, hp, hq, hr, hs, h => by
    have k := kind_eq hp hq h
    cases q <;> first | cases k | skip
    rename_i b
    have ht : sh (.bool true) = [84, 114, 117, 101] := by unfold sh; rw [PyData.shown, if_pos rfl, TL.tl_ofString]; rfl
    have hf : sh (.bool false) = [70, 97, 108, 115, 101] := by unfold sh; rw [PyData.shown, if_neg Bool.false_ne_true, TL.tl_ofString]; rfl
    cases a <;> cases b
    · exact ⟨rfl, List.append_cancel_left h⟩
    · rw [ht, hf] at h
      exact absurd h (by simp)
    · rw [ht, hf] at h
      exact absurd h (by simp)
    · exact ⟨rfl, List.append_cancel_left h⟩
  | .int i, q, r, s, hp, hq, hr, hs, h => by
    have k := kind_eq hp hq h
    cases q <;> first | cases k | skip
    rename_i j
    cases i with
    | ofNat m =>
      cases j with
      | ofNat n =>
        have h : sh (.int (m : Int)) ++ r = sh (.int (n : Int)) ++ s := h
        rw [sh_nat, sh_nat] at h
        obtain ⟨e1, e2⟩ := dig_split (digs_isD m) (digs_isD n) hr hs h
        rw [digs_inj e1]
        exact ⟨rfl, e2⟩
      | negSucc n =>
        have h : sh (.int (m : Int)) ++ r = sh (.int (Int.negSucc n)) ++ s := h
        rw [sh_nat, sh_neg] at h
        cases q : (Nat.toDigits 10 m).map Char.toNat with
        | nil => exact absurd q (digs_ne m)
        | cons c t =>
          have h3 := digs_isD m c (by rw [q]; exact List.mem_cons_self)
          rw [q] at h
          have h : c :: (t ++ r) = 45 :: _ := h
          injection h with h _
          unfold isD at h3
          omega
    | negSucc m =>
      cases j with
      | ofNat n =>
        have h : sh (.int (Int.negSucc m)) ++ r = sh (.int (n : Int)) ++ s := h
        rw [sh_nat, sh_neg] at h
        cases q : (Nat.toDigits 10 n).map Char.toNat with
        | nil => exact absurd q (digs_ne n)
        | cons c t =>
          have h3 := digs_isD n c (by rw [q]; exact List.mem_cons_self)
          rw [q] at h
          have h : 45 :: _ = c :: (t ++ s) := h
          injection h with h _
          unfold isD at h3
          omega
      | negSucc n =>
        rw [sh_neg, sh_neg] at h
        have h : 45 :: ((Nat.toDigits 10 (m + 1)).map Char.toNat ++ r) = 45 :: ((Nat.toDigits 10 (n + 1)).map Char.toNat ++ s) := h
        injection h with _ h
        obtain ⟨e1, e2⟩ := dig_split (digs_isD (m + 1)) (digs_isD (n + 1)) hr hs h
        have e3 : m = n := Nat.succ.inj (digs_inj e1)
        rw [e3]
        exact ⟨rfl, e2⟩
  | .str x, q, r, s, hp, hq, hr, hs, h => by
    have k := kind_eq hp hq h
    cases q <;> first | cases k | skip
    rename_i y
    have hp : plainS x = true := by simpa [Pl] using hp
    have hq : plainS y = true := by simpa [Pl] using hq
    rw [sh_str hp, sh_str hq] at h
    have h : 39 :: ((x.cps.toList ++ [39]) ++ r) = 39 :: ((y.cps.toList ++ [39]) ++ s) := h
    injection h with _ h
    rw [List.append_assoc, List.append_assoc] at h
    obtain ⟨e1, e2⟩ := quo_split hp hq h
    have e : x = y := TL.ext_tl e1
    rw [e]
    exact ⟨rfl, e2⟩
  | .list xs, q, r, s, hp, hq, hr, hs, h => by
    have k := kind_eq hp hq h
    cases q <;> first | cases k | skip
    rename_i ys
    have hp : Pls xs = true := by simpa [Pl] using hp
    have hq : Pls ys = true := by simpa [Pl] using hq
    rw [sh_list, sh_list] at h
    have h : 91 :: ((jn (xs.map sh) ++ [93]) ++ r) = 91 :: ((jn (ys.map sh) ++ [93]) ++ s) := h
    injection h with _ h
    rw [List.append_assoc, List.append_assoc] at h
    obtain ⟨e1, e2⟩ := shs_inj xs ys 93 r s hp hq (by unfold stopC; omega) (by decide) h
    rw [e1]
    exact ⟨rfl, e2⟩
  | .tuple xs, q, r, s, hp, hq, hr, hs, h => by
    have k := kind_eq hp hq h
    cases q <;> first | cases k | skip
    rename_i ys
    have hp : Pls xs = true := by simpa [Pl] using hp
    have hq : Pls ys = true := by simpa [Pl] using hq
    rw [sh_tuple, sh_tuple] at h
    have h : 40 :: ((jn (xs.map sh) ++ (if xs.length == 1 then [44, 41] else [41])) ++ r) = 40 :: ((jn (ys.map sh) ++ (if ys.length == 1 then [44, 41] else [41])) ++ s) := h
    injection h with _ h
    rw [List.append_assoc, List.append_assoc] at h
    have s41 : stopC 41 := by unfold stopC; omega
    match xs, ys, hp, hq, h with
    | [x], [y], hp, hq, h =>
      simp only [Pls, Bool.and_true] at hp hq
      obtain ⟨e1, e2⟩ := sh_inj x y (44 :: 41 :: r) (44 :: 41 :: s) hp hq (Or.inl rfl) (Or.inl rfl) h
      rw [e1]
      exact ⟨rfl, cons_inj2 e2⟩
    | [x], [], hp, hq, h =>
      exfalso
      simp only [Pls, Bool.and_true] at hp
      exact sh_stop hp s41 (show sh x ++ (44 :: 41 :: r) = 41 :: s from h)
    | [], [y], hp, hq, h =>
      exfalso
      simp only [Pls, Bool.and_true] at hq
      exact sh_stop hq s41 (show sh y ++ (44 :: 41 :: s) = 41 :: r from h.symm)
    | [x], y :: z :: zs, hp, hq, h =>
      exfalso
      simp only [Pls, Bool.and_true, Bool.and_eq_true] at hp hq
      have h : sh x ++ (44 :: 41 :: r) = jn (sh y :: (z :: zs).map sh) ++ 41 :: s := h
      rw [jn_cons] at h
      obtain ⟨e1, e2⟩ := sh_inj x y (44 :: 41 :: r) _ hp hq.1 (Or.inl rfl) (tail_stop s41) h
      have e2 : 44 :: 41 :: r = 44 :: 32 :: _ := e2
      injection e2 with _ e2
      injection e2 with e2 _
      omega
    | x :: z :: zs, [y], hp, hq, h =>
      exfalso
      simp only [Pls, Bool.and_true, Bool.and_eq_true] at hp hq
      have h : jn (sh x :: (z :: zs).map sh) ++ 41 :: r = sh y ++ (44 :: 41 :: s) := h
      rw [jn_cons] at h
      obtain ⟨e1, e2⟩ := sh_inj x y _ (44 :: 41 :: s) hp.1 hq (tail_stop s41) (Or.inl rfl) h
      have e2 : 44 :: 32 :: _ = 44 :: 41 :: s := e2
      injection e2 with _ e2
      injection e2 with e2 _
      omega
    | [], [], hp, hq, h => exact ⟨rfl, by injection h⟩
    | [], y :: z :: zs, hp, hq, h =>
      obtain ⟨e1, e2⟩ := shs_inj [] (y :: z :: zs) 41 r s hp hq s41 (by decide) h
      cases e1
    | x :: z :: zs, [], hp, hq, h =>
      obtain ⟨e1, e2⟩ := shs_inj (x :: z :: zs) [] 41 r s hp hq s41 (by decide) h
      cases e1
    | x :: x2 :: xs, y :: y2 :: ys, hp, hq, h =>
      obtain ⟨e1, e2⟩ := shs_inj (x :: x2 :: xs) (y :: y2 :: ys) 41 r s hp hq s41 (by decide) h
      rw [e1]
      exact ⟨rfl, e2⟩
  | .dict kvs, q, r, s, hp, hq, hr, hs, h => by
    have k := kind_eq hp hq h
    cases q <;> first | cases k | skip
    rename_i ys
    have hp : PlKv kvs = true := by simpa [Pl] using hp
    have hq : PlKv ys = true := by simpa [Pl] using hq
    rw [sh_dict, sh_dict] at h
    have h : 123 :: ((jn (kvs.map fun q => sh q.1 ++ 58 :: 32 :: sh q.2) ++ [125]) ++ r) = 123 :: ((jn (ys.map fun q => sh q.1 ++ 58 :: 32 :: sh q.2) ++ [125]) ++ s) := h
    injection h with _ h
    rw [List.append_assoc, List.append_assoc] at h
    obtain ⟨e1, e2⟩ := kvs_inj kvs ys 125 r s hp hq (by unfold stopC; omega) (by decide) h
    rw [e1]
    exact ⟨rfl, e2⟩
theorem shs_inj : ∀ (xs ys : List PyData) (k : Nat) (r s : List Nat), Pls xs = true → Pls ys = true → stopC k → k ≠ 44 → jn (xs.map sh) ++ k :: r = jn (ys.map sh) ++ k :: s → xs = ys ∧ r = s
  | [], [], k, r, s, hp, hq, hk, hn, h => by
    injection h with _ h
    exact ⟨rfl, h⟩
  | [], y :: ys, k, r, s, hp, hq, hk, hn, h => by
    exfalso
    simp only [Pls, Bool.and_eq_true] at hq
    have h : k :: r = jn (sh y :: ys.map sh) ++ k :: s := h
    rw [jn_cons] at h
    exact sh_stop hq.1 hk h.symm
  | x :: xs, [], k, r, s, hp, hq, hk, hn, h => by
    exfalso
    simp only [Pls, Bool.and_eq_true] at hp
    have h : jn (sh x :: xs.map sh) ++ k :: r = k :: s := h
    rw [jn_cons] at h
    exact sh_stop hp.1 hk h
  | x :: xs, y :: ys, k, r, s, hp, hq, hk, hn, h => by
    simp only [Pls, Bool.and_eq_true] at hp hq
    have h : jn (sh x :: xs.map sh) ++ k :: r = jn (sh y :: ys.map sh) ++ k :: s := h
    rw [jn_cons, jn_cons] at h
    obtain ⟨e1, e2⟩ := sh_inj x y _ _ hp.1 hq.1 (tail_stop hk) (tail_stop hk) h
    cases xs with
    | nil =>
      cases ys with
      | nil =>
        have e2 : k :: r = k :: s := e2
        injection e2 with _ e2
        rw [e1]
        exact ⟨rfl, e2⟩
      | cons y2 ys2 =>
        exfalso
        have e2 : k :: r = 44 :: _ := e2
        injection e2 with e2 _
        exact hn e2
    | cons x2 xs2 =>
      cases ys with
      | nil =>
        exfalso
        have e2 : 44 :: _ = k :: s := e2
        injection e2 with e2 _
        exact hn e2.symm
      | cons y2 ys2 =>
        have e2 : 44 :: 32 :: ((sh x2 ++ ((xs2.map sh).map fun t => 44 :: 32 :: t).flatten) ++ k :: r) = 44 :: 32 :: ((sh y2 ++ ((ys2.map sh).map fun t => 44 :: 32 :: t).flatten) ++ k :: s) := by simpa using e2
        have e3 := cons_inj2 e2
        rw [← jn_flat, ← jn_flat] at e3
        obtain ⟨e4, e5⟩ := shs_inj (x2 :: xs2) (y2 :: ys2) k r s hp.2 hq.2 hk hn e3
        rw [e1, e4]
        exact ⟨rfl, e5⟩
theorem kvs_inj : ∀ (xs ys : List (PyData × PyData)) (k : Nat) (r s : List Nat), PlKv xs = true → PlKv ys = true → stopC k → k ≠ 44 → jn (xs.map fun q => sh q.1 ++ 58 :: 32 :: sh q.2) ++ k :: r = jn (ys.map fun q => sh q.1 ++ 58 :: 32 :: sh q.2) ++ k :: s → xs = ys ∧ r = s
  | [], [], k, r, s, hp, hq, hk, hn, h => by
    injection h with _ h
    exact ⟨rfl, h⟩
  | [], (y, y') :: ys, k, r, s, hp, hq, hk, hn, h => by
    exfalso
    simp only [PlKv, Bool.and_eq_true] at hq
    have h : k :: r = jn ((sh y ++ 58 :: 32 :: sh y') :: ys.map fun q => sh q.1 ++ 58 :: 32 :: sh q.2) ++ k :: s := h
    rw [jn_cons, List.append_assoc] at h
    exact sh_stop hq.1.1 hk h.symm
  | (x, x') :: xs, [], k, r, s, hp, hq, hk, hn, h => by
    exfalso
    simp only [PlKv, Bool.and_eq_true] at hp
    have h : jn ((sh x ++ 58 :: 32 :: sh x') :: xs.map fun q => sh q.1 ++ 58 :: 32 :: sh q.2) ++ k :: r = k :: s := h
    rw [jn_cons, List.append_assoc] at h
    exact sh_stop hp.1.1 hk h
  | (x, x') :: xs, (y, y') :: ys, k, r, s, hp, hq, hk, hn, h => by
    simp only [PlKv, Bool.and_eq_true] at hp hq
    have h : jn ((sh x ++ 58 :: 32 :: sh x') :: xs.map fun q => sh q.1 ++ 58 :: 32 :: sh q.2) ++ k :: r = jn ((sh y ++ 58 :: 32 :: sh y') :: ys.map fun q => sh q.1 ++ 58 :: 32 :: sh q.2) ++ k :: s := h
    rw [jn_cons, jn_cons, List.append_assoc, List.append_assoc] at h
    have s58 : stopC 58 := by unfold stopC; omega
    obtain ⟨e0, e1⟩ := sh_inj x y _ _ hp.1.1 hq.1.1 (stop_cons s58 _) (stop_cons s58 _) h
    have e9 := cons_inj2 e1
    obtain ⟨f1, e2⟩ := sh_inj x' y' _ _ hp.1.2 hq.1.2 (tail_stop hk) (tail_stop hk) e9
    cases xs with
    | nil =>
      cases ys with
      | nil =>
        have e2 : k :: r = k :: s := e2
        injection e2 with _ e2
        rw [e0, f1]
        exact ⟨rfl, e2⟩
      | cons y2 ys2 =>
        exfalso
        have e2 : k :: r = 44 :: _ := e2
        injection e2 with e2 _
        exact hn e2
    | cons x2 xs2 =>
      cases ys with
      | nil =>
        exfalso
        have e2 : 44 :: _ = k :: s := e2
        injection e2 with e2 _
        exact hn e2.symm
      | cons y2 ys2 =>
        have e3 : jn ((x2 :: xs2).map fun q => sh q.1 ++ 58 :: 32 :: sh q.2) ++ k :: r = jn ((y2 :: ys2).map fun q => sh q.1 ++ 58 :: 32 :: sh q.2) ++ k :: s := by
          rw [List.map_cons, List.map_cons, jn_flat, jn_flat]
          have e2 : 44 :: 32 :: (((sh x2.1 ++ 58 :: 32 :: sh x2.2) ++ ((xs2.map fun q => sh q.1 ++ 58 :: 32 :: sh q.2).map fun t => 44 :: 32 :: t).flatten) ++ k :: r) = 44 :: 32 :: (((sh y2.1 ++ 58 :: 32 :: sh y2.2) ++ ((ys2.map fun q => sh q.1 ++ 58 :: 32 :: sh q.2).map fun t => 44 :: 32 :: t).flatten) ++ k :: s) := by simpa using e2
          exact cons_inj2 e2
        obtain ⟨e4, e5⟩ := kvs_inj (x2 :: xs2) (y2 :: ys2) k r s hp.2 hq.2 hk hn e3
        rw [e0, f1, e4]
        exact ⟨rfl, e5⟩
end
/-- equal texts, equal values -/
theorem shown_inj {p q : PyData} (hp : Pl p = true) (hq : Pl q = true) (h : p.shown = q.shown) : p = q :=
  (sh_inj p q [] [] hp hq trivial trivial (by unfold sh; rw [h])).1
end Mi

end
section
set_option Elab.async false
set_option linter.all false
set_option maxRecDepth 100000
set_option maxHeartbeats 1000000
/-! What a text does, backwards from what is wanted. -/
namespace Mi
open PySem L2
/-- it ends without an error, and so -/
def Wp {α : Type} (x : Option (R α)) (P : α → Sto → Prop) : Prop := ∃ a S, x = some (.ok a S) ∧ P a S
def Wo (x : Option O) (Pn : Loc → Sto → Prop) (Pr : D → Sto → Prop) : Prop := (∃ ρ S, x = some (.nx ρ S) ∧ Pn ρ S) ∨ ∃ d S, x = some (.rt d S) ∧ Pr d S
/-- there, and so -/
def Oo {γ : Type} (x : Option γ) (P : γ → Prop) : Prop := match x with
  | some a => P a
  | none => False
def Ot (x : Option (D × Sto)) (P : D → Sto → Prop) : Prop := match x with
  | some q => P q.1 q.2
  | none => False
def IsB (d : D) (P : Bool → Prop) : Prop := match d with
  | .bl b => P b
  | _ => False
def IsI (d : D) (P : Int → Prop) : Prop := match d with
  | .int b => P b
  | _ => False
def IsR (d : D) (P : Nat → Prop) : Prop := match d with
  | .ref b => P b
  | _ => False
section
variable {γ δ : Type}
@[simp] theorem Oo_some (a : γ) (P : γ → Prop) : Oo (some a) P ↔ P a := Iff.rfl
@[simp] theorem Oo_none (P : γ → Prop) : Oo none P ↔ False := Iff.rfl
@[simp] theorem Oo_map (x : Option γ) (f : γ → δ) (P : δ → Prop) : Oo (x.map f) P ↔ Oo x fun a => P (f a) := by cases x <;> exact Iff.rfl
@[simp] theorem Oo_bind (x : Option γ) (f : γ → Option δ) (P : δ → Prop) : Oo (x.bind f) P ↔ Oo x fun a => Oo (f a) P := by cases x <;> exact Iff.rfl
@[simp] theorem Oo_if {c : Prop} [Decidable c] (x : Option γ) (P : γ → Prop) : Oo (if c then x else none) P ↔ c ∧ Oo x P := by
  by_cases h : c
  · rw [if_pos h]; exact ⟨fun z => ⟨h, z⟩, fun z => z.2⟩
  · rw [if_neg h]; exact ⟨fun z => z.elim, fun z => h z.1⟩
@[simp] theorem Ot_some (d : D) (S : Sto) (P : D → Sto → Prop) : Ot (some (d, S)) P ↔ P d S := Iff.rfl
@[simp] theorem Ot_none (P : D → Sto → Prop) : Ot none P ↔ False := Iff.rfl
@[simp] theorem Ot_map (x : Option γ) (f : γ → D) (g : γ → Sto) (P : D → Sto → Prop) : Ot (x.map fun a => (f a, g a)) P ↔ Oo x fun a => P (f a) (g a) := by cases x <;> exact Iff.rfl
@[simp] theorem Ot_bind (x : Option γ) (f : γ → Option (D × Sto)) (P : D → Sto → Prop) : Ot (x.bind f) P ↔ Oo x fun a => Ot (f a) P := by cases x <;> exact Iff.rfl
@[simp] theorem Ot_if {c : Prop} [Decidable c] (x : Option (D × Sto)) (P : D → Sto → Prop) : Ot (if c then x else none) P ↔ c ∧ Ot x P := by
  by_cases h : c
  · rw [if_pos h]; exact ⟨fun z => ⟨h, z⟩, fun z => z.2⟩
  · rw [if_neg h]; exact ⟨fun z => z.elim, fun z => h z.1⟩
@[simp] theorem IsB_bl (b : Bool) (P : Bool → Prop) : IsB (.bl b) P ↔ P b := Iff.rfl
@[simp] theorem IsI_int (b : Int) (P : Int → Prop) : IsI (.int b) P ↔ P b := Iff.rfl
@[simp] theorem IsR_ref (b : Nat) (P : Nat → Prop) : IsR (.ref b) P ↔ P b := Iff.rfl
theorem Oo_ex (x : Option γ) (P : γ → Prop) : Oo x P ↔ ∃ r, x = some r ∧ P r := by
  cases x with
  | none => exact ⟨fun h => h.elim, fun ⟨r, e, _⟩ => (by cases e)⟩
  | some a => exact ⟨fun h => ⟨a, rfl, h⟩, fun ⟨r, e, h⟩ => by cases e; exact h⟩
theorem Ot_ex (x : Option (D × Sto)) (P : D → Sto → Prop) : Ot x P ↔ ∃ q, x = some q ∧ P q.1 q.2 := by
  cases x with
  | none => exact ⟨fun h => h.elim, fun ⟨r, e, _⟩ => (by cases e)⟩
  | some a => exact ⟨fun h => ⟨a, rfl, h⟩, fun ⟨r, e, h⟩ => by cases e; exact h⟩
theorem IsB_ex (d : D) (P : Bool → Prop) : IsB d P ↔ ∃ b, d = .bl b ∧ P b := by
  cases d <;> first | exact ⟨fun h => ⟨_, rfl, h⟩, fun ⟨b, e, h⟩ => by cases e; exact h⟩ | exact ⟨fun h => h.elim, fun ⟨b, e, h⟩ => by cases e⟩
theorem IsI_ex (d : D) (P : Int → Prop) : IsI d P ↔ ∃ b, d = .int b ∧ P b := by
  cases d <;> first | exact ⟨fun h => ⟨_, rfl, h⟩, fun ⟨b, e, h⟩ => by cases e; exact h⟩ | exact ⟨fun h => h.elim, fun ⟨b, e, h⟩ => by cases e⟩
theorem IsR_ex (d : D) (P : Nat → Prop) : IsR d P ↔ ∃ b, d = .ref b ∧ P b := by
  cases d <;> first | exact ⟨fun h => ⟨_, rfl, h⟩, fun ⟨b, e, h⟩ => by cases e; exact h⟩ | exact ⟨fun h => h.elim, fun ⟨b, e, h⟩ => by cases e⟩
end
section
variable {α β : Type} {P : α → Sto → Prop} {Q : β → Sto → Prop}
@[simp] theorem Wp_ok (a : α) (S : Sto) : Wp (some (.ok a S)) P ↔ P a S := ⟨fun ⟨b, T, e, h⟩ => by cases e; exact h, fun h => ⟨a, S, rfl, h⟩⟩
@[simp] theorem Wp_none : Wp (none : Option (R α)) P ↔ False := ⟨fun ⟨b, T, e, h⟩ => (by cases e), fun h => h.elim⟩
@[simp] theorem Wp_ex (c : Nat) (v : D) (S : Sto) : Wp (some (.ex c v S) : Option (R α)) P ↔ False := ⟨fun ⟨b, T, e, h⟩ => (by cases e), fun h => h.elim⟩
@[simp] theorem Wp_bnd (x : Option (R α)) (k : α → Sto → Option (R β)) : Wp (bnd x k) Q ↔ Wp x fun a S => Wp (k a S) Q := by
  cases x with
  | none => exact ⟨fun ⟨b, T, e, h⟩ => (by cases e), fun ⟨b, T, e, h⟩ => (by cases e)⟩
  | some r =>
    cases r with
    | ok a S => rw [bnd_ok, Wp_ok]
    | ex c v S => exact ⟨fun ⟨b, T, e, h⟩ => (by cases e), fun ⟨b, T, e, h⟩ => (by cases e)⟩
theorem Wp_mono {x : Option (R α)} {P' : α → Sto → Prop} (h : Wp x P) (k : ∀ a S, P a S → P' a S) : Wp x P' := by
  obtain ⟨a, S, e, h⟩ := h
  exact ⟨a, S, e, k a S h⟩
@[simp] theorem Wp_map {γ : Type} {P : α → Sto → Prop} (x : Option γ) (f : γ → α) (S : Sto) : Wp (x.map fun r => R.ok (f r) S) P ↔ Oo x fun r => P (f r) S := by
  rw [Oo_ex]
  cases x with
  | none => exact ⟨fun ⟨b, T, e, h⟩ => (by cases e), fun ⟨r, e, h⟩ => (by cases e)⟩
  | some r =>
    show Wp (some (R.ok (f r) S)) P ↔ _
    rw [Wp_ok]
    exact ⟨fun h => ⟨r, rfl, h⟩, fun ⟨q, e, h⟩ => by cases e; exact h⟩
@[simp] theorem Wp_lift2 {P : D → Sto → Prop} (x : Option (D × Sto)) : Wp (lift2 x) P ↔ Ot x P := by
  rw [Ot_ex]
  unfold lift2
  cases x with
  | none => exact ⟨fun ⟨b, T, e, h⟩ => (by cases e), fun ⟨r, e, h⟩ => (by cases e)⟩
  | some q =>
    show Wp (some (R.ok q.1 q.2)) P ↔ _
    rw [Wp_ok]
    exact ⟨fun h => ⟨q, rfl, h⟩, fun ⟨p, e, h⟩ => by cases e; exact h⟩
@[simp] theorem Wp_if {c : Prop} [Decidable c] (x : Option (R α)) : Wp (if c then x else none) P ↔ c ∧ Wp x P := by
  by_cases h : c
  · rw [if_pos h]; exact ⟨fun z => ⟨h, z⟩, fun z => z.2⟩
  · rw [if_neg h, Wp_none]; exact ⟨fun z => z.elim, fun z => h z.1⟩
@[simp] theorem Wp_tst {P : Bool → Sto → Prop} (x : Option (R D)) : Wp (tst x) P ↔ Wp x fun d S => IsB d fun b => P b S := by
  simp only [IsB_ex]
  unfold tst
  rw [Wp_bnd]
  constructor
  · rintro ⟨d, S, e, h⟩
    refine ⟨d, S, e, ?_⟩
    cases d <;> first | (rw [Wp_none] at h; exact h.elim) | skip
    rename_i b
    rw [Wp_ok] at h
    exact ⟨b, rfl, h⟩
  · rintro ⟨d, S, e, b, rfl, h⟩
    exact ⟨_, S, e, (Wp_ok b S).mpr h⟩
@[simp] theorem Wp_noX (x : Option (R α)) : Wp (noX x) P ↔ Wp x P := by
  cases x with
  | none => exact Iff.rfl
  | some r =>
    cases r with
    | ok a S => exact Iff.rfl
    | ex c v S => exact ⟨fun ⟨b, T, e, h⟩ => (by cases e), fun ⟨b, T, e, h⟩ => (by cases e)⟩
variable {Pn : Loc → Sto → Prop} {Pr : D → Sto → Prop}
@[simp] theorem Wo_nx (ρ : Loc) (S : Sto) : Wo (some (.nx ρ S)) Pn Pr ↔ Pn ρ S := by
  refine ⟨fun h => ?_, fun h => .inl ⟨ρ, S, rfl, h⟩⟩
  rcases h with ⟨a, b, e, h⟩ | ⟨a, b, e, h⟩
  · cases e; exact h
  · cases e
@[simp] theorem Wo_rt (d : D) (S : Sto) : Wo (some (.rt d S)) Pn Pr ↔ Pr d S := by
  refine ⟨fun h => ?_, fun h => .inr ⟨d, S, rfl, h⟩⟩
  rcases h with ⟨a, b, e, h⟩ | ⟨a, b, e, h⟩
  · cases e
  · cases e; exact h
@[simp] theorem Wo_none : Wo none Pn Pr ↔ False := by
  refine ⟨fun h => ?_, fun h => h.elim⟩
  rcases h with ⟨a, b, e, h⟩ | ⟨a, b, e, h⟩ <;> cases e
@[simp] theorem Wo_exn (c : Nat) (v : D) (S : Sto) : Wo (some (.ex c v S)) Pn Pr ↔ False := by
  refine ⟨fun h => ?_, fun h => h.elim⟩
  rcases h with ⟨a, b, e, h⟩ | ⟨a, b, e, h⟩ <;> cases e
theorem Wo_ofE (x : Option (R D)) (k : D → Sto → Option O) : Wo (ofE x k) Pn Pr ↔ Wp x fun d S => Wo (k d S) Pn Pr := by
  cases x with
  | none => exact ⟨fun h => (Wo_none.mp h).elim, fun h => (Wp_none.mp h).elim⟩
  | some r =>
    cases r with
    | ok a S => exact ((Wp_ok (P := fun d S => Wo (k d S) Pn Pr) a S)).symm
    | ex c v S => exact ⟨fun h => (Wo_exn c v S |>.mp h).elim, fun h => (Wp_ex c v S |>.mp h).elim⟩
theorem Wo_map (x : Option Loc) (S : Sto) : Wo (x.map fun ρ1 => .nx ρ1 S) Pn Pr ↔ Oo x fun ρ1 => Pn ρ1 S := by
  rw [Oo_ex]
  cases x with
  | none => exact ⟨fun h => (Wo_none.mp h).elim, fun ⟨r, e, h⟩ => (by cases e)⟩
  | some r =>
    show Wo (some (.nx r S)) Pn Pr ↔ _
    rw [Wo_nx]
    exact ⟨fun h => ⟨r, rfl, h⟩, fun ⟨q, e, h⟩ => by cases e; exact h⟩
/-- one after the other -/
def seqO (x : Option O) (k : Loc → Sto → Option O) : Option O := match x with
  | some (.nx ρ1 S1) => k ρ1 S1
  | some (.rt d S1) => some (.rt d S1)
  | some (.ex c v S1) => some (.ex c v S1)
  | none => none
theorem Wo_seq (x : Option O) (k : Loc → Sto → Option O) : Wo (seqO x k) Pn Pr ↔ Wo x (fun ρ S => Wo (k ρ S) Pn Pr) Pr := by
  cases x with
  | none => exact ⟨fun h => (Wo_none.mp h).elim, fun h => (Wo_none.mp h).elim⟩
  | some o =>
    cases o with
    | nx ρ S => exact (Wo_nx (Pn := fun ρ S => Wo (k ρ S) Pn Pr) (Pr := Pr) ρ S).symm
    | rt d S =>
      show Wo (some (.rt d S)) Pn Pr ↔ _
      rw [Wo_rt, Wo_rt]
    | ex c v S => exact ⟨fun h => (Wo_exn c v S |>.mp h).elim, fun h => (Wo_exn c v S |>.mp h).elim⟩
theorem Wo_mono {x : Option O} {Pn' : Loc → Sto → Prop} {Pr' : D → Sto → Prop} (h : Wo x Pn Pr) (k : ∀ ρ S, Pn ρ S → Pn' ρ S) (k' : ∀ d S, Pr d S → Pr' d S) : Wo x Pn' Pr' := by
  rcases h with ⟨a, b, e, h⟩ | ⟨a, b, e, h⟩
  · exact .inl ⟨a, b, e, k _ _ h⟩
  · exact .inr ⟨a, b, e, k' _ _ h⟩
end
section
variable {G : List D} {W : Nat} {cal : Cal} {ρ : Loc} {S : Sto} {Pn : Loc → Sto → Prop} {Pr : D → Sto → Prop}
@[simp] theorem Ws_nil : Wo (exSs G W cal [] ρ S) Pn Pr ↔ Pn ρ S := by rw [exSs, Wo_nx]
@[simp] theorem Ws_cons (s : Sm) (ss : List Sm) : Wo (exSs G W cal (s :: ss) ρ S) Pn Pr ↔ Wo (exS G W cal s ρ S) (fun ρ1 S1 => Wo (exSs G W cal ss ρ1 S1) Pn Pr) Pr := by
  have e : exSs G W cal (s :: ss) ρ S = seqO (exS G W cal s ρ S) (exSs G W cal ss) := by rw [exSs] <;> rfl
  rw [e, Wo_seq]
@[simp] theorem Ws_asg (t : Tg) (e : E) : Wo (exS G W cal (.asg t e) ρ S) Pn Pr ↔ Wp (evE G cal e ρ S) fun d S1 => Oo (setT ρ t d) fun ρ1 => Pn ρ1 S1 := by
  rw [exS, Wo_ofE]
  constructor <;> exact fun h => Wp_mono h fun d S1 z => by first | exact (Wo_map _ _).mp z | exact (Wo_map _ _).mpr z
@[simp] theorem Ws_expr (e : E) : Wo (exS G W cal (.expr e) ρ S) Pn Pr ↔ Wp (evE G cal e ρ S) fun _ S1 => Pn ρ S1 := by
  rw [exS, Wo_ofE]
  constructor <;> exact fun h => Wp_mono h fun d S1 z => by first | exact (Wo_nx _ _).mp z | exact (Wo_nx _ _).mpr z
@[simp] theorem Ws_ret (e : E) : Wo (exS G W cal (.ret e) ρ S) Pn Pr ↔ Wp (evE G cal e ρ S) Pr := by
  rw [exS, Wo_ofE]
  constructor <;> exact fun h => Wp_mono h fun d S1 z => by first | exact (Wo_rt _ _).mp z | exact (Wo_rt _ _).mpr z
@[simp] theorem Ws_ite (c : E) (a b : List Sm) : Wo (exS G W cal (.ite c a b) ρ S) Pn Pr ↔ Wp (tst (evE G cal c ρ S)) fun t S1 => if t = true then Wo (exSs G W cal a ρ S1) Pn Pr else Wo (exSs G W cal b ρ S1) Pn Pr := by
  rw [exS]
  cases tst (evE G cal c ρ S) with
  | none => exact ⟨fun h => (Wo_none.mp h).elim, fun h => (Wp_none.mp h).elim⟩
  | some r =>
    cases r with
    | ok t S1 =>
      rw [Wp_ok]
      cases t
      · rw [if_neg Bool.false_ne_true]
      · rw [if_pos rfl]
    | ex k v S1 => exact ⟨fun h => (Wo_exn _ _ _ |>.mp h).elim, fun h => (Wp_ex _ _ _ |>.mp h).elim⟩
@[simp] theorem Ws_for (t : Tg) (k : Ik) (its : List E) (body : List Sm) : Wo (exS G W cal (.for_ t k its body) ρ S) Pn Pr ↔ Wp (evEs G cal its ρ S) fun ds S1 => Oo (itD S1 k ds) fun q => Wo (forGo t (fun ρ S => exSs G W cal body ρ S) (still q.2 q.1) q.1 ρ S1) Pn Pr := by
  rw [exS]
  cases evEs G cal its ρ S with
  | none => exact ⟨fun h => (Wo_none.mp h).elim, fun h => (Wp_none.mp h).elim⟩
  | some r =>
    cases r with
    | ok ds S1 =>
      rw [Wp_ok, Oo_ex]
      dsimp only
      cases itD S1 k ds with
      | none => exact ⟨fun h => (Wo_none.mp h).elim, fun ⟨q, e, _⟩ => (by cases e)⟩
      | some q => exact ⟨fun h => ⟨q, rfl, h⟩, fun ⟨p, e, h⟩ => by cases e; exact h⟩
    | ex k v S1 => exact ⟨fun h => (Wo_exn _ _ _ |>.mp h).elim, fun h => (Wp_ex _ _ _ |>.mp h).elim⟩
/-- a for loop, by an invariant over what is left -/
theorem W_forGo {t : Tg} {body : Loc → Sto → Option O} {ok : Sto → Bool} (J : List D → Loc → Sto → Prop) (step : ∀ x xs ρ S, J (x :: xs) ρ S → ∃ ρ1, setT ρ t x = some ρ1 ∧ Wo (body ρ1 S) (fun ρ2 S2 => ok S2 = true ∧ J xs ρ2 S2) Pr) (hd : ∀ ρ S, J [] ρ S → Pn ρ S) :
    ∀ (xs : List D) (ρ : Loc) (S : Sto), J xs ρ S → Wo (forGo t body ok xs ρ S) Pn Pr
  | [], ρ, S, h => by rw [forGo, Wo_nx]; exact hd ρ S h
  | x :: xs, ρ, S, h => by
    obtain ⟨ρ1, e1, h1⟩ := step x xs ρ S h
    rw [forGo, e1]
    simp only [Option.bind_some]
    rcases h1 with ⟨ρ2, S2, e, h2, h3⟩ | ⟨d, S2, e, h2⟩
    · rw [e]
      show Wo (if ok S2 = true then forGo t body ok xs ρ2 S2 else none) Pn Pr
      rw [if_pos h2]
      exact W_forGo J step hd xs ρ2 S2 h3
    · rw [e]
      exact .inr ⟨d, S2, rfl, h2⟩
/-- a while loop, by an invariant with a count of the turns that are left -/
theorem W_whl {cond : Loc → Sto → Option (R Bool)} {body : Loc → Sto → Option O} (J : Nat → Loc → Sto → Prop) (step : ∀ k ρ S, J k ρ S → Wp (cond ρ S) fun b S1 => if b = true then 0 < k ∧ Wo (body ρ S1) (fun ρ2 S2 => ∃ j, j < k ∧ J j ρ2 S2) Pr else Pn ρ S1) :
    ∀ (n : Nat) (k : Nat) (ρ : Loc) (S : Sto), k < n → J k ρ S → Wo (whlGo cond body n ρ S) Pn Pr
  | 0, k, ρ, S, hk, _ => absurd hk (Nat.not_lt_zero k)
  | n + 1, k, ρ, S, hk, h => by
    obtain ⟨b, S1, e, h1⟩ := step k ρ S h
    rw [whlGo, e]
    cases b with
    | false =>
      rw [if_neg Bool.false_ne_true] at h1
      exact .inl ⟨ρ, S1, rfl, h1⟩
    | true =>
      rw [if_pos rfl] at h1
      rcases h1.2 with ⟨ρ2, S2, e2, j, hj, h2⟩ | ⟨d, S2, e2, h2⟩
      · simp only [e2]
        exact W_whl J step n j ρ2 S2 (by omega) h2
      · simp only [e2]
        exact .inr ⟨d, S2, rfl, h2⟩
theorem Ws_whl (c : E) (body : List Sm) : exS G W cal (.whl c body) ρ S = whlGo (fun ρ S => tst (evE G cal c ρ S)) (fun ρ S => exSs G W cal body ρ S) W ρ S := by rw [exS]
/-- a call -/
theorem Wp_call {T : List Fd} {n f : Nat} {F : Fd} {ds : List D} {P : D → Sto → Prop} (hT : T[f]? = some F) (hl : ds.length = F.np) (h : Wo (exSs G W (calF G W T n) F.body (ds.map some ++ List.replicate (F.ns - ds.length) none) S) (fun _ S1 => P .non S1) P) : Wp (calF G W T (n + 1) f ds S) P := by
  rw [calF, hT]
  dsimp only
  rw [if_pos hl]
  rcases h with ⟨a, b, e, h⟩ | ⟨a, b, e, h⟩
  · rw [e]; exact ⟨_, _, rfl, h⟩
  · rw [e]; exact ⟨_, _, rfl, h⟩
/-! ### comprehensions -/
theorem W_comp {cond : D → Sto → Option (R Bool)} {elt : D → Sto → Option (R D)} {ok : Sto → Bool} {P : List D → Sto → Prop} (J : List D → List D → Sto → Prop)
    (step : ∀ x xs ds S, J (x :: xs) ds S → Wp (cond x S) fun b S1 => if b = true then Wp (elt x S1) fun d S2 => ok S2 = true ∧ J xs (ds ++ [d]) S2 else ok S1 = true ∧ J xs ds S1) :
    ∀ (xs ds : List D) (S : Sto), J xs ds S → (∀ ys S', J [] ys S' → P ys S') → Wp (compGo cond elt ok xs S) fun ys S' => P (ds ++ ys) S'
  | [], ds, S, h, hd => by
    rw [compGo, Wp_ok, List.append_nil]
    exact hd ds S h
  | x :: xs, ds, S, h, hd => by
    have z := step x xs ds S h
    rw [compGo, Wp_bnd]
    refine Wp_mono z fun b S1 h1 => ?_
    cases b with
    | false =>
      rw [if_neg Bool.false_ne_true] at h1 ⊢
      rw [if_pos h1.1]
      exact W_comp J step xs ds S1 h1.2 hd
    | true =>
      rw [if_pos rfl] at h1 ⊢
      rw [Wp_bnd]
      refine Wp_mono h1 fun d S2 h2 => ?_
      rw [if_pos h2.1, Wp_bnd]
      refine Wp_mono (W_comp J step xs (ds ++ [d]) S2 h2.2 hd) fun ys S' h3 => ?_
      rw [Wp_ok]
      rw [List.append_assoc] at h3
      exact h3
/-- nothing of the store is touched: a plain filter and map -/
theorem W_pure {cond : D → Sto → Option (R Bool)} {elt : D → Sto → Option (R D)} {ok : Sto → Bool} {P : List D → Sto → Prop} {xs : List D} (p : D → Bool) (f : D → D) (ho : ok S = true)
    (hc : ∀ x ∈ xs, cond x S = some (.ok (p x) S)) (he : ∀ x ∈ xs, p x = true → elt x S = some (.ok (f x) S)) (h : P ((xs.filter p).map f) S) : Wp (compGo cond elt ok xs S) P := by
  have key : ∀ l : List D, (∀ x ∈ l, x ∈ xs) → compGo cond elt ok l S = some (.ok ((l.filter p).map f) S) := by
    intro l
    induction l with
    | nil => intro _; rfl
    | cons x l ih =>
      intro hl
      have ih := ih fun y hy => hl y (List.mem_cons_of_mem _ hy)
      have hx := hl x List.mem_cons_self
      rw [compGo, hc x hx, bnd_ok]
      cases hp : p x with
      | false =>
        rw [if_neg Bool.false_ne_true, if_pos ho, ih, List.filter_cons_of_neg (by rw [hp]; exact Bool.false_ne_true)]
      | true =>
        rw [if_pos rfl, he x hx hp, bnd_ok, if_pos ho, ih, bnd_ok, List.filter_cons_of_pos hp, List.map_cons]
  rw [key xs fun _ h => h, Wp_ok]
  exact h
theorem W_plain {cond : D → Sto → Option (R Bool)} {elt : D → Sto → Option (R D)} {ok : Sto → Bool} {S : Sto} {P : List D → Sto → Prop} {xs : List D} (p : D → Bool) (f : D → D) (ho : ok S = true)
    (hc : ∀ x ∈ xs, Wp (cond x S) fun b S' => b = p x ∧ S' = S) (he : ∀ x ∈ xs, p x = true → Wp (elt x S) fun d S' => d = f x ∧ S' = S) (h : P ((xs.filter p).map f) S) : Wp (compGo cond elt ok xs S) P :=
  W_pure p f ho (fun x hx => by obtain ⟨b, S', e, e1, e2⟩ := hc x hx; rw [e, e1, e2]) (fun x hx hp => by obtain ⟨b, S', e, e1, e2⟩ := he x hx hp; rw [e, e1, e2]) h
theorem Wp_lc (vs : List Nat) (t : Tg) (k : Ik) (its cs : List E) (elt : E) {P : D → Sto → Prop} : Wp (evE G cal (.lc vs t k its cs elt) ρ S) P ↔ Wp (evEs G cal its ρ S) fun ds S1 => Oo (itD S1 k ds) fun q =>
    Wp (compGo (fun x S2 => (setT (wipeD ρ vs) t x).bind fun ρ' => evTs G cal cs ρ' S2) (fun x S2 => (setT (wipeD ρ vs) t x).bind fun ρ' => evE G cal elt ρ' S2) (still q.2 q.1) q.1 S1) fun ys S3 => ys.length ≤ sizeLine ∧ P (.ref S3.length) (S3 ++ [.lst ys]) := by
  rw [evE, Wp_bnd]
  have key : ∀ ds S1, Wp (match itD S1 k ds with
      | some (xs, g) => bnd (noX (compGo (fun x S2 => (setT (wipeD ρ vs) t x).bind fun ρ' => evTs G cal cs ρ' S2) (fun x S2 => (setT (wipeD ρ vs) t x).bind fun ρ' => evE G cal elt ρ' S2) (still g xs) xs S1)) fun ys S3 => if ys.length ≤ sizeLine then some (R.ok (D.ref S3.length) (S3 ++ [.lst ys])) else none
      | none => none) P ↔ Oo (itD S1 k ds) fun q => Wp (compGo (fun x S2 => (setT (wipeD ρ vs) t x).bind fun ρ' => evTs G cal cs ρ' S2) (fun x S2 => (setT (wipeD ρ vs) t x).bind fun ρ' => evE G cal elt ρ' S2) (still q.2 q.1) q.1 S1) fun ys S3 => ys.length ≤ sizeLine ∧ P (.ref S3.length) (S3 ++ [.lst ys]) := by
    intro ds S1
    rw [Oo_ex]
    cases itD S1 k ds with
    | none => exact ⟨fun h => (Wp_none.mp h).elim, fun ⟨q, e, _⟩ => (by cases e)⟩
    | some q =>
      obtain ⟨xs, g⟩ := q
      dsimp only
      rw [Wp_bnd, Wp_noX]
      constructor
      · intro h
        refine ⟨_, rfl, Wp_mono h fun ys S3 z => ?_⟩
        rw [Wp_if, Wp_ok] at z
        exact z
      · rintro ⟨q, e, h⟩
        cases e
        refine Wp_mono h fun ys S3 z => ?_
        rw [Wp_if, Wp_ok]
        exact z
  constructor <;> exact fun h => Wp_mono h fun ds S1 z => by first | exact (key ds S1).mp z | exact (key ds S1).mpr z
end
section
variable {G : List D} {W : Nat} {cal : Cal} {ρ : Loc} {S : Sto}
@[simp] theorem ev_var (i : Nat) : evE G cal (.var i) ρ S = match ρ[i]? with
    | some (some d) => some (.ok d S)
    | _ => none := by rw [evE] <;> rfl
@[simp] theorem ev_lit (d : D) : evE G cal (.lit d) ρ S = some (.ok d S) := by rw [evE]
@[simp] theorem ev_glb (k : Nat) : evE G cal (.glb k) ρ S = match G[k]? with
    | some d => some (.ok d S)
    | none => none := by rw [evE] <;> rfl
@[simp] theorem ev_tup (es : List E) : evE G cal (.tup es) ρ S = bnd (evEs G cal es ρ S) fun ds S1 => if ds.length ≤ sizeLine then some (.ok (.tup ds) S1) else none := by rw [evE]
@[simp] theorem ev_lst (es : List E) : evE G cal (.lst es) ρ S = bnd (evEs G cal es ρ S) fun ds S1 => if ds.length ≤ sizeLine then some (.ok (.ref S1.length) (S1 ++ [.lst ds])) else none := by rw [evE]
@[simp] theorem ev_dic (ks : List Str) (es : List E) : evE G cal (.dic ks es) ρ S = bnd (evEs G cal es ρ S) fun ds S1 => some (.ok (.ref S1.length) (S1 ++ [.dct ((ks.map Sum.inr).zip ds)])) := by rw [evE]
@[simp] theorem ev_op (o : Op2) (a b : E) : evE G cal (.op o a b) ρ S = bnd (evE G cal a ρ S) fun x S1 => bnd (evE G cal b ρ S1) fun y S2 => lift2 (opD S2 o x y) := by rw [evE]
/-- less than nothing -/
def negD : D → Option D
  | .int i => some (.int (-i))
  | _ => none
@[simp] theorem negD_int (i : Int) : negD (.int i) = some (.int (-i)) := rfl
@[simp] theorem ev_neg (a : E) : evE G cal (.neg a) ρ S = bnd (evE G cal a ρ S) fun x S1 => (negD x).map fun r => .ok r S1 := by
  rw [evE]
  congr 1
  funext x S1
  cases x <;> rfl
@[simp] theorem ev_cmp (c : Cm) (a b : E) : evE G cal (.cmp c a b) ρ S = bnd (evE G cal a ρ S) fun x S1 => bnd (evE G cal b ρ S1) fun y S2 => (cmpD S2 c x y).map fun r => .ok (.bl r) S2 := by rw [evE]
@[simp] theorem ev_and (es : List E) : evE G cal (.and es) ρ S = evAnd G cal es ρ S := by rw [evE]
@[simp] theorem ev_or (es : List E) : evE G cal (.or es) ρ S = evOr G cal es ρ S := by rw [evE]
@[simp] theorem ev_not (a : E) : evE G cal (.not a) ρ S = bnd (tst (evE G cal a ρ S)) fun b S1 => some (.ok (.bl (!b)) S1) := by rw [evE]
@[simp] theorem ev_ite (c a b : E) {P : D → Sto → Prop} : Wp (evE G cal (.ite c a b) ρ S) P ↔ Wp (tst (evE G cal c ρ S)) fun t S1 => if t = true then Wp (evE G cal a ρ S1) P else Wp (evE G cal b ρ S1) P := by
  rw [evE, Wp_bnd]
  constructor <;> exact fun h => Wp_mono h fun t S1 z => by cases t <;> simpa using z
@[simp] theorem ev_ix (a b : E) : evE G cal (.ix a b) ρ S = bnd (evE G cal a ρ S) fun x S1 => bnd (evE G cal b ρ S1) fun y S2 => (ixD S2 x y).map fun r => .ok r S2 := by rw [evE]
@[simp] theorem ev_slc (a : E) (lo hi : Option E) : evE G cal (.slc a lo hi) ρ S = bnd (evE G cal a ρ S) fun x S1 => bnd (evO G cal lo ρ S1) fun l S2 => bnd (evO G cal hi ρ S2) fun h S3 => lift2 (slcD S3 x l h) := by rw [evE]
@[simp] theorem ev_rev (a : E) : evE G cal (.rev a) ρ S = bnd (evE G cal a ρ S) fun x S1 => lift2 (revD S1 x) := by rw [evE]
@[simp] theorem ev_call (f : Nat) (es : List E) : evE G cal (.call f es) ρ S = bnd (evEs G cal es ρ S) fun ds S1 => cal f ds S1 := by rw [evE]
@[simp] theorem ev_bi (b : Bi) (es : List E) : evE G cal (.bi b es) ρ S = bnd (evEs G cal es ρ S) fun ds S1 => lift2 (biD S1 b ds) := by rw [evE]
@[simp] theorem ev_ext (a b : E) : evE G cal (.ext a b) ρ S = bnd (evE G cal a ρ S) fun x S1 => if isL S1 x = true then bnd (evE G cal b ρ S1) fun y S2 => extD S2 x y else none := by rw [evE]
@[simp] theorem ev_app (a b : E) : evE G cal (.app a b) ρ S = bnd (evE G cal a ρ S) fun x S1 => if isL S1 x = true then bnd (evE G cal b ρ S1) fun y S2 => appD S2 x y else none := by rw [evE]
@[simp] theorem evs_nil : evEs G cal [] ρ S = some (.ok [] S) := by rw [evEs]
@[simp] theorem evs_cons (e : E) (es : List E) : evEs G cal (e :: es) ρ S = bnd (evE G cal e ρ S) fun d S1 => bnd (evEs G cal es ρ S1) fun ds S2 => some (.ok (d :: ds) S2) := by rw [evEs]
@[simp] theorem eva_one (e : E) : evAnd G cal [e] ρ S = bnd (tst (evE G cal e ρ S)) fun b S1 => some (.ok (.bl b) S1) := by simp only [evAnd]
@[simp] theorem eva_more (e e' : E) (es : List E) {P : D → Sto → Prop} : Wp (evAnd G cal (e :: e' :: es) ρ S) P ↔ Wp (tst (evE G cal e ρ S)) fun b S1 => if b = true then Wp (evAnd G cal (e' :: es) ρ S1) P else P (.bl false) S1 := by
  rw [evAnd, Wp_bnd]
  constructor <;> exact fun h => Wp_mono h fun t S1 z => by cases t <;> simpa using z
@[simp] theorem evo_one (e : E) : evOr G cal [e] ρ S = bnd (tst (evE G cal e ρ S)) fun b S1 => some (.ok (.bl b) S1) := by simp only [evOr]
@[simp] theorem evo_more (e e' : E) (es : List E) {P : D → Sto → Prop} : Wp (evOr G cal (e :: e' :: es) ρ S) P ↔ Wp (tst (evE G cal e ρ S)) fun b S1 => if b = true then P (.bl true) S1 else Wp (evOr G cal (e' :: es) ρ S1) P := by
  rw [evOr, Wp_bnd]
  constructor <;> exact fun h => Wp_mono h fun t S1 z => by cases t <;> simpa using z
@[simp] theorem evt_nil : evTs G cal [] ρ S = some (.ok true S) := by rw [evTs]
@[simp] theorem evt_cons (e : E) (es : List E) {P : Bool → Sto → Prop} : Wp (evTs G cal (e :: es) ρ S) P ↔ Wp (tst (evE G cal e ρ S)) fun b S1 => if b = true then Wp (evTs G cal es ρ S1) P else P false S1 := by
  rw [evTs, Wp_bnd]
  constructor <;> exact fun h => Wp_mono h fun t S1 z => by cases t <;> simpa using z
@[simp] theorem evp_none : evO G cal none ρ S = some (.ok none S) := by rw [evO]
@[simp] theorem evp_some (e : E) {P : Option Int → Sto → Prop} : Wp (evO G cal (some e) ρ S) P ↔ Wp (evE G cal e ρ S) fun d S1 => IsI d fun i => P (some i) S1 := by
  simp only [IsI_ex]
  rw [evO, Wp_bnd]
  constructor
  · refine fun h => Wp_mono h fun d S1 z => ?_
    cases d <;> first | (simp at z; done) | skip
    exact ⟨_, rfl, by simpa using z⟩
  · refine fun h => Wp_mono h fun d S1 z => ?_
    obtain ⟨i, rfl, z⟩ := z
    simpa using z
@[simp] theorem ev_chain (c1 c2 : Cm) (a b c : E) {P : D → Sto → Prop} : Wp (evE G cal (.chain c1 c2 a b c) ρ S) P ↔ Wp (evE G cal a ρ S) fun x S1 => Wp (evE G cal b ρ S1) fun y S2 => Oo (cmpD S2 c1 x y) fun t => if t = true then Wp (evE G cal c ρ S2) fun z S3 => Oo (cmpD S3 c2 y z) fun r => P (.bl r) S3 else P (.bl false) S2 := by
  rw [evE, Wp_bnd]
  have key : ∀ x y S2, Wp (match cmpD S2 c1 x y with
      | some true => bnd (evE G cal c ρ S2) fun z S3 => (cmpD S3 c2 y z).map fun r => R.ok (.bl r) S3
      | some false => some (.ok (.bl false) S2)
      | none => none) P ↔ Oo (cmpD S2 c1 x y) fun t => if t = true then Wp (evE G cal c ρ S2) fun z S3 => Oo (cmpD S3 c2 y z) fun r => P (.bl r) S3 else P (.bl false) S2 := by
    intro x y S2
    cases cmpD S2 c1 x y with
    | none => simp
    | some t => cases t <;> simp
  constructor
  · refine fun h => Wp_mono h fun x S1 z => ?_
    rw [Wp_bnd] at z
    exact Wp_mono z fun y S2 z => (key x y S2).mp z
  · refine fun h => Wp_mono h fun x S1 z => ?_
    rw [Wp_bnd]
    exact Wp_mono z fun y S2 z => (key x y S2).mpr z
@[simp] theorem ov_add (i j : Int) : opD S .add (.int i) (.int j) = some (.int (i + j), S) := rfl
@[simp] theorem ov_sub (i j : Int) : opD S .sub (.int i) (.int j) = some (.int (i - j), S) := rfl
@[simp] theorem ov_mul (i j : Int) : opD S .mul (.int i) (.int j) = if mulOk i j then some (.int (i * j), S) else none := by
  by_cases h : mulOk i j
  · rw [if_pos h]; exact if_pos h
  · rw [if_neg h]; exact if_neg h
def fdOk (j : Int) : Prop := 0 < j ∧ j < 2 ^ 4096
instance (j : Int) : Decidable (fdOk j) := by unfold fdOk; exact inferInstance
theorem fdOk_of {j : Int} (h : 0 < j) (h2 : j < 2 ^ 64) : fdOk j := ⟨h, Int.lt_trans h2 (by decide)⟩
@[simp] theorem ov_fdiv (i j : Int) : opD S .fdiv (.int i) (.int j) = if fdOk j then some (.int (i / j), S) else none := by
  by_cases h : fdOk j
  · rw [if_pos h]; exact if_pos h
  · rw [if_neg h]; exact if_neg h
@[simp] theorem ov_mod (i j : Int) : opD S .mod (.int i) (.int j) = if 0 < j then some (.int (i % j), S) else none := rfl
@[simp] theorem ov_pow (i j : Int) : opD S .pow (.int i) (.int j) = if powOk i j then some (.int (i ^ j.toNat), S) else none := by
  by_cases h : powOk i j
  · rw [if_pos h]; exact if_pos h
  · rw [if_neg h]; exact if_neg h
@[simp] theorem cv_lt (i j : Int) : cmpD S .lt (.int i) (.int j) = some (decide (i < j)) := rfl
@[simp] theorem cv_le (i j : Int) : cmpD S .le (.int i) (.int j) = some (decide (i ≤ j)) := rfl
@[simp] theorem cv_gt (i j : Int) : cmpD S .gt (.int i) (.int j) = some (decide (j < i)) := rfl
@[simp] theorem cv_ge (i j : Int) : cmpD S .ge (.int i) (.int j) = some (decide (j ≤ i)) := rfl
@[simp] theorem cv_isN (x : D) : cmpD S .isN x .non = some (isNonD x) := by cases x <;> rfl
@[simp] theorem cv_notN (x : D) : cmpD S .notN x .non = some (!isNonD x) := by cases x <;> rfl
@[simp] theorem bv_int (i : Int) : biD S .int [.int i] = some (.int i, S) := rfl
@[simp] theorem bv_bl (b : Bool) : biD S .int [.bl b] = some (.int (if b then 1 else 0), S) := rfl
@[simp] theorem bv_abs (i : Int) : biD S .abs [.int i] = some (.int (if i < 0 then -i else i), S) := rfl
@[simp] theorem bv_min (i j : Int) : biD S .min2 [.int i, .int j] = some (.int (if j < i then j else i), S) := rfl
@[simp] theorem bv_max (i j : Int) : biD S .max2 [.int i, .int j] = some (.int (if j > i then j else i), S) := rfl
@[simp] theorem bv_isi (t : String) (x : D) : biD S (.isi t) [x] = (isiD S t x).map fun b => (.bl b, S) := rfl
@[simp] theorem bv_repr (x : D) : biD S .repr [x] = (reprD S x).map fun z => (.str z, S) := rfl
@[simp] theorem setT_one (ρ : Loc) (i : Nat) (d : D) : setT ρ (.one i) d = some (ρ.set i (some d)) := rfl
@[simp] theorem setT_two (ρ : Loc) (i j : Nat) (x y : D) : setT ρ (.tup [i, j]) (.tup [x, y]) = some ((ρ.set i (some x)).set j (some y)) := rfl
end
end Mi

end
section
set_option Elab.async false
set_option linter.all false
set_option maxRecDepth 100000
set_option maxHeartbeats 1000000
/-! Plain facts of the operations: types, stores that grow, data as repr shows it. -/
namespace Mi
open PySem L2
/-! ### isinstance -/
def isInt : D → Bool
  | .int _ => true
  | _ => false
def isBl : D → Bool
  | .bl _ => true
  | _ => false
def isStr : D → Bool
  | .str _ => true
  | _ => false
def isTup : D → Bool
  | .tup _ => true
  | _ => false
def tyS : List String := ["NoneType", "bool", "int", "str", "tuple", "list", "dict"]
theorem kit_int : ∀ a ∈ tyS, kitB a "int" = some (a == "int" || a == "bool") := by decide +kernel
theorem kit_bool : ∀ a ∈ tyS, kitB a "bool" = some (a == "bool") := by decide +kernel
theorem kit_str : ∀ a ∈ tyS, kitB a "str" = some (a == "str") := by decide +kernel
theorem kit_tup : ∀ a ∈ tyS, kitB a "tuple" = some (a == "tuple") := by decide +kernel
theorem kit_list : ∀ a ∈ tyS, kitB a "list" = some (a == "list") := by decide +kernel
/-- it is of the store -/
def Ty (S : Sto) (d : D) : Prop := match d with
  | .ref r => r < S.length
  | _ => True
theorem ty_ref {S : Sto} {r : Nat} (h : r < S.length) : tyD S (.ref r) = some "list" ∨ tyD S (.ref r) = some "dict" := by
  have e : S[r]? = some S[r] := List.getElem?_eq_getElem h
  show (match S[r]? with | some (.lst _) => some "list" | some (.dct _) => some "dict" | none => none) = some "list" ∨ (match S[r]? with | some (.lst _) => some "list" | some (.dct _) => some "dict" | none => none) = some "dict"
  rw [e]
  cases S[r] with
  | lst xs => exact .inl rfl
  | dct kvs => exact .inr rfl
theorem isi_int {S : Sto} {d : D} (h : Ty S d) : isiD S "int" d = some (isInt d || isBl d) := by
  unfold isiD
  cases d with
  | ref r => rcases ty_ref h with e | e <;> (rw [e]; exact kit_int _ (by decide))
  | _ => exact kit_int _ (by decide)
theorem isi_bool {S : Sto} {d : D} (h : Ty S d) : isiD S "bool" d = some (isBl d) := by
  unfold isiD
  cases d with
  | ref r => rcases ty_ref h with e | e <;> (rw [e]; exact kit_bool _ (by decide))
  | _ => exact kit_bool _ (by decide)
theorem isi_str {S : Sto} {d : D} (h : Ty S d) : isiD S "str" d = some (isStr d) := by
  unfold isiD
  cases d with
  | ref r => rcases ty_ref h with e | e <;> (rw [e]; exact kit_str _ (by decide))
  | _ => exact kit_str _ (by decide)
theorem isi_tup {S : Sto} {d : D} (h : Ty S d) : isiD S "tuple" d = some (isTup d) := by
  unfold isiD
  cases d with
  | ref r => rcases ty_ref h with e | e <;> (rw [e]; exact kit_tup _ (by decide))
  | _ => exact kit_tup _ (by decide)
/-! ### data, as the library has them -/
theorem py_tup (S : Sto) (xs : List D) : toPy S (.tup xs) = (toPys S xs).map .tuple := by
  unfold toPy toPys
  rw [toPyW]
theorem pys_nil (S : Sto) : toPys S [] = some [] := by
  unfold toPys
  rw [toPysW]
theorem pys_cons (S : Sto) (x : D) (xs : List D) : toPys S (x :: xs) = (toPy S x).bind fun p => (toPys S xs).map fun ps => p :: ps := by
  unfold toPy toPys
  rw [toPysW]
theorem py_non (S : Sto) : toPy S .non = some .none := by unfold toPy; rw [toPyW]
theorem py_bl (S : Sto) (b : Bool) : toPy S (.bl b) = some (.bool b) := by unfold toPy; rw [toPyW]
theorem py_int (S : Sto) (i : Int) : toPy S (.int i) = some (.int i) := by unfold toPy; rw [toPyW]
theorem py_str (S : Sto) (x : Str) : toPy S (.str x) = some (.str x) := by unfold toPy; rw [toPyW]
/-- what no store holds -/
inductive Fl : D → PyData → Prop
  | non : Fl .non .none
  | bl (b : Bool) : Fl (.bl b) (.bool b)
  | int (i : Int) : Fl (.int i) (.int i)
  | str (x : Str) : Fl (.str x) (.str x)
theorem Fl.any {d : D} {p : PyData} (h : Fl d p) (f : Nat → Option PyData) : toPyW f d = some p := by
  cases h <;> rw [toPyW]
theorem ints_any (f : Nat → Option PyData) : ∀ is : List Int, toPysW f (is.map D.int) = some (is.map PyData.int)
  | [] => by simp [toPysW]
  | i :: is => by
    rw [List.map_cons, toPysW, ints_any f is, toPyW]
    rfl
theorem py_ints {S : Sto} {r : Nat} {is : List Int} (h : S[r]? = some (.lst (is.map D.int))) : toPy S (.ref r) = some (.list (is.map PyData.int)) := by
  unfold toPy
  rw [toPyW, toPyR, h]
  dsimp only
  rw [ints_any]
  rfl
/-! ### the mapping grows with what it opens -/
mutual
theorem toPyW_mono {f g : Nat → Option PyData} (h : ∀ r p, f r = some p → g r = some p) : ∀ (d : D) (p : PyData), toPyW f d = some p → toPyW g d = some p
  | .non, p, e => by rw [toPyW] at e ⊢; exact e
  | .bl b, p, e => by rw [toPyW] at e ⊢; exact e
  | .int i, p, e => by rw [toPyW] at e ⊢; exact e
  | .str x, p, e => by rw [toPyW] at e ⊢; exact e
  | .tup xs, p, e => by
    rw [toPyW] at e ⊢
    cases q : toPysW f xs with
    | none => rw [q] at e; cases e
    | some ps => rw [q] at e; rw [toPysW_mono h xs ps q]; exact e
  | .frz xs, p, e => by
    rw [toPyW] at e ⊢
    cases q : toPysW f xs with
    | none => rw [q] at e; cases e
    | some ps => rw [q] at e; rw [toPysW_mono h xs ps q]; exact e
  | .ref r, p, e => by rw [toPyW] at e ⊢; exact h r p e
theorem toPysW_mono {f g : Nat → Option PyData} (h : ∀ r p, f r = some p → g r = some p) : ∀ (ds : List D) (ps : List PyData), toPysW f ds = some ps → toPysW g ds = some ps
  | [], ps, e => by rw [toPysW] at e ⊢; exact e
  | d :: ds, ps, e => by
    rw [toPysW] at e ⊢
    cases q : toPyW f d with
    | none => rw [q] at e; cases e
    | some p =>
      rw [q] at e
      rw [toPyW_mono h d p q]
      cases q2 : toPysW f ds with
      | none => rw [q2] at e; cases e
      | some qs => rw [q2] at e; rw [toPysW_mono h ds qs q2]; exact e
end
/-- objects that nothing opens -/
def hide (X : List Nat) (S : Sto) : Sto := S.mapIdx fun j o => if j ∈ X then .lst [.ref j] else o
theorem hide_in {X : List Nat} {S : Sto} {j : Nat} (h : j ∈ X) : (hide X S)[j]? = (S[j]?).map fun _ => .lst [.ref j] := by
  unfold hide
  rw [List.getElem?_mapIdx]
  simp only [h, if_true]
theorem hide_out {X : List Nat} {S : Sto} {j : Nat} (h : j ∉ X) : (hide X S)[j]? = S[j]? := by
  unfold hide
  rw [List.getElem?_mapIdx]
  simp only [h, if_false]
  cases S[j]? <;> rfl
theorem hide_self {X : List Nat} {r : Nat} (h : r ∈ X) (S : Sto) : ∀ n, toPyR (hide X S) n r = none
  | 0 => rfl
  | n + 1 => by
    rw [toPyR, hide_in h]
    cases S[r]? with
    | none => rfl
    | some o =>
      simp only [Option.map_some]
      rw [toPysW, toPyW, hide_self h S n]
      rfl
/-- the store may have grown, and what lies at these is another -/
def Fr (X : List Nat) (S S' : Sto) : Prop := S.length ≤ S'.length ∧ ∀ j, j < S.length → j ∉ X → S'[j]? = S[j]?
theorem Fr.refl (X : List Nat) (S : Sto) : Fr X S S := ⟨Nat.le_refl _, fun _ _ _ => rfl⟩
theorem Fr.trans {X : List Nat} {S S' S'' : Sto} (a : Fr X S S') (b : Fr X S' S'') : Fr X S S'' := ⟨Nat.le_trans a.1 b.1, fun j h n => (b.2 j (Nat.lt_of_lt_of_le h a.1) n).trans (a.2 j h n)⟩
theorem Fr.grow (X : List Nat) (S T : Sto) : Fr X S (S ++ T) := ⟨by simp, fun j h _ => List.getElem?_append_left h⟩
theorem Fr.put {X : List Nat} {r : Nat} (h : r ∈ X) (S : Sto) (o : SO) : Fr X S (S.set r o) := ⟨by simp, fun j _ n => List.getElem?_set_ne (fun e : r = j => n (by rw [← e]; exact h))⟩
theorem Fr.sub {X Y : List Nat} {S S' : Sto} (h : ∀ x ∈ X, x ∈ Y) (f : Fr X S S') : Fr Y S S' := ⟨f.1, fun j a n => f.2 j a fun z => n (h j z)⟩
/-- the store has only grown -/
def Gw (S S' : Sto) : Prop := S.length ≤ S'.length ∧ ∀ j, j < S.length → S'[j]? = S[j]?
theorem Gw.refl (S : Sto) : Gw S S := ⟨Nat.le_refl _, fun _ _ => rfl⟩
theorem Gw.trans {S S' S'' : Sto} (a : Gw S S') (b : Gw S' S'') : Gw S S'' := ⟨Nat.le_trans a.1 b.1, fun j h => (b.2 j (Nat.lt_of_lt_of_le h a.1)).trans (a.2 j h)⟩
theorem Gw.more (S T : Sto) : Gw S (S ++ T) := ⟨by simp, fun j h => List.getElem?_append_left h⟩
theorem Gw.fr {S S' : Sto} (h : Gw S S') (X : List Nat) : Fr X S S' := ⟨h.1, fun j hj _ => h.2 j hj⟩
theorem Gw.at_ {S S' : Sto} (h : Gw S S') {r : Nat} {o : SO} (e : S[r]? = some o) : S'[r]? = some o := (h.2 r (List.getElem?_eq_some_iff.mp e).1).trans e
theorem Fr.at_ {X : List Nat} {S S' : Sto} (h : Fr X S S') {j : Nat} {o : SO} (e : S[j]? = some o) (n : j ∉ X) : S'[j]? = some o := (h.2 j (List.getElem?_eq_some_iff.mp e).1 n).trans e
theorem toPyR_mono {S S' : Sto} (h : ∀ j o, S[j]? = some o → S'[j]? = some o ∨ ∀ n, toPyR S n j = none) : ∀ (n r : Nat) (p : PyData), toPyR S n r = some p → toPyR S' n r = some p
  | 0, _, _, e => by cases e
  | n + 1, r, p, e => by
    cases q : S[r]? with
    | none => rw [toPyR, q] at e; cases e
    | some o =>
      rcases h r o q with z | z
      · rw [toPyR, q] at e
        rw [toPyR, z]
        cases o with
        | lst xs =>
          dsimp only at e ⊢
          cases q2 : toPysW (toPyR S n) xs with
          | none => rw [q2] at e; cases e
          | some ps => rw [q2] at e; rw [toPysW_mono (fun r p => toPyR_mono h n r p) xs ps q2]; exact e
        | dct kvs =>
          dsimp only at e ⊢
          cases q2 : toPysW (toPyR S n) (kvs.map (·.2)) with
          | none => rw [q2] at e; cases e
          | some ps => rw [q2] at e; rw [toPysW_mono (fun r p => toPyR_mono h n r p) _ ps q2]; exact e
      · rw [z] at e; cases e
/-- its data, where nothing leads to these -/
def Py (X : List Nat) (S : Sto) (d : D) (p : PyData) : Prop := toPy (hide X S) d = some p
theorem Py.now {X : List Nat} {S : Sto} {d : D} {p : PyData} (h : Py X S d p) : toPy S d = some p := by
  refine toPyW_mono (fun j q e => toPyR_mono (fun k o e => ?_) 8 j q e) d p h
  by_cases hk : k ∈ X
  · exact .inr fun n => hide_self hk S n
  · rw [hide_out hk] at e
    exact .inl e
theorem Py.mono {X : List Nat} {S S' : Sto} {d : D} {p : PyData} (f : Fr X S S') (h : Py X S d p) : Py X S' d p := by
  refine toPyW_mono (fun j q e => toPyR_mono (fun k o e => ?_) 8 j q e) d p h
  by_cases hk : k ∈ X
  · exact .inr fun n => hide_self hk S n
  · rw [hide_out hk] at e ⊢
    exact .inl (f.at_ e hk)
theorem toPy_grow {S S' : Sto} {d : D} {p : PyData} (f : Gw S S') (h : toPy S d = some p) : toPy S' d = some p :=
  toPyW_mono (fun j q e => toPyR_mono (fun k o e => .inl (f.at_ e)) 8 j q e) d p h
/-! ### what repr shows of it -/
mutual
/-- plain texts, no great ints, not deep, not long -/
def wt : PyData → Nat
  | .none => 4
  | .bool _ => 5
  | .int i => if i.natAbs < 10 ^ 60 then 62 else 10 ^ 9
  | .str x => if plainS x = true then x.length + 2 else 10 ^ 9
  | .list xs => wts xs + 4
  | .tuple xs => wts xs + 4
  | .dict kvs => wtk kvs + 4
def wts : List PyData → Nat
  | [] => 0
  | x :: xs => wt x + 2 + wts xs
def wtk : List (PyData × PyData) → Nat
  | [] => 0
  | (k, v) :: r => wt k + wt v + 4 + wtk r
end
end Mi

end
section
set_option Elab.async false
set_option linter.all false
set_option maxRecDepth 100000
set_option maxHeartbeats 1000000
/-! repr of data that are not long. -/
namespace Mi
open PySem L2
theorem jn_len : ∀ ts : List (List Nat), (jn ts).length ≤ (ts.map fun t => t.length + 2).sum
  | [] => by simp [jn]
  | [x] => by simp [jn]
  | x :: y :: r => by
    have ih := jn_len (y :: r)
    simp only [jn, List.length_append, List.length_cons, List.map_cons, List.sum_cons] at ih ⊢
    omega
mutual
theorem wt_ok : ∀ p : PyData, wt p < 10 ^ 9 → Pl p = true ∧ p.showable = true ∧ (sh p).length ≤ wt p
  | .none, _ => ⟨rfl, rfl, by unfold sh; rw [PyData.shown, TL.tl_ofString]; decide⟩
  | .bool b, _ => ⟨rfl, rfl, by
      cases b
      · unfold sh; rw [PyData.shown, if_neg Bool.false_ne_true, TL.tl_ofString]; decide
      · unfold sh; rw [PyData.shown, if_pos rfl, TL.tl_ofString]; decide⟩
  | .int i, h => by
    rw [wt] at h ⊢
    have hi : i.natAbs < 10 ^ 60 := by
      by_cases z : i.natAbs < 10 ^ 60
      · exact z
      · rw [if_neg z] at h; omega
    rw [if_pos hi]
    refine ⟨rfl, ?_, ?_⟩
    · rw [PyData.showable]
      have : i.natAbs.log2 < 1920 := by
        by_cases z : i.natAbs = 0
        · rw [z]; decide
        · have : i.natAbs.log2 < 200 := (Nat.log2_lt z).mpr (Nat.lt_trans hi (by decide))
          omega
      exact decide_eq_true this
    · cases i with
      | ofNat m =>
        have e := sh_nat m
        show (sh (.int (m : Int))).length ≤ 62
        rw [e, List.length_map]
        have := PyProof.Rows.digits10_le (k := 60) (n := m) (by decide) hi
        omega
      | negSucc m =>
        rw [sh_neg, List.length_cons, List.length_map]
        have := PyProof.Rows.digits10_le (k := 60) (n := m + 1) (by decide) hi
        omega
  | .str x, h => by
    rw [wt] at h ⊢
    have hx : plainS x = true := by
      by_cases z : plainS x = true
      · exact z
      · rw [if_neg z] at h; omega
    rw [if_pos hx]
    refine ⟨by rw [Pl]; exact hx, rfl, ?_⟩
    rw [sh_str hx]
    simp [Str.length]
  | .list xs, h => by
    rw [wt] at h ⊢
    obtain ⟨h1, h2, h3⟩ := wts_ok xs (by omega)
    refine ⟨by rw [Pl]; exact h1, by rw [PyData.showable]; exact h2, ?_⟩
    rw [sh_list]
    have := jn_len (xs.map sh)
    rw [List.map_map] at this
    have h3 : (xs.map ((fun t => t.length + 2) ∘ sh)).sum ≤ wts xs := h3
    simp only [List.length_cons, List.length_append, List.length_nil]
    omega
  | .tuple xs, h => by
    rw [wt] at h ⊢
    obtain ⟨h1, h2, h3⟩ := wts_ok xs (by omega)
    refine ⟨by rw [Pl]; exact h1, by rw [PyData.showable]; exact h2, ?_⟩
    rw [sh_tuple]
    have := jn_len (xs.map sh)
    rw [List.map_map] at this
    have h3 : (xs.map ((fun t => t.length + 2) ∘ sh)).sum ≤ wts xs := h3
    have h4 : (if xs.length == 1 then [44, 41] else [41] : List Nat).length ≤ 2 := by split <;> simp
    simp only [List.length_cons, List.length_append]
    omega
  | .dict kvs, h => by
    rw [wt] at h ⊢
    obtain ⟨h1, h2, h3⟩ := wtk_ok kvs (by omega)
    refine ⟨by rw [Pl]; exact h1, by rw [PyData.showable]; exact h2, ?_⟩
    rw [sh_dict]
    have := jn_len (kvs.map fun q => sh q.1 ++ 58 :: 32 :: sh q.2)
    rw [List.map_map] at this
    have h3 : (kvs.map ((fun t => t.length + 2) ∘ fun q => sh q.1 ++ 58 :: 32 :: sh q.2)).sum ≤ wtk kvs := h3
    simp only [List.length_cons, List.length_append, List.length_nil]
    omega
theorem wts_ok : ∀ ps : List PyData, wts ps < 10 ^ 9 → Pls ps = true ∧ PyData.showableAll ps = true ∧ (ps.map ((fun t => t.length + 2) ∘ sh)).sum ≤ wts ps
  | [], _ => ⟨rfl, rfl, by simp⟩
  | x :: xs, h => by
    rw [wts] at h ⊢
    obtain ⟨a1, a2, a3⟩ := wt_ok x (by omega)
    obtain ⟨b1, b2, b3⟩ := wts_ok xs (by omega)
    refine ⟨by rw [Pls, a1, b1]; rfl, by rw [PyData.showableAll, a2, b2]; rfl, ?_⟩
    rw [List.map_cons, List.sum_cons]
    show (sh x).length + 2 + _ ≤ _
    omega
theorem wtk_ok : ∀ ps : List (PyData × PyData), wtk ps < 10 ^ 9 → PlKv ps = true ∧ PyData.showableKv ps = true ∧ (ps.map ((fun t => t.length + 2) ∘ fun q => sh q.1 ++ 58 :: 32 :: sh q.2)).sum ≤ wtk ps
  | [], _ => ⟨rfl, rfl, by simp⟩
  | (k, v) :: r, h => by
    rw [wtk] at h ⊢
    obtain ⟨a1, a2, a3⟩ := wt_ok k (by omega)
    obtain ⟨c1, c2, c3⟩ := wt_ok v (by omega)
    obtain ⟨b1, b2, b3⟩ := wtk_ok r (by omega)
    refine ⟨by rw [PlKv, a1, c1, b1]; rfl, by rw [PyData.showableKv, a2, c2, b2]; rfl, ?_⟩
    rw [List.map_cons, List.sum_cons]
    show (sh k ++ 58 :: 32 :: sh v).length + 2 + _ ≤ _
    simp only [List.length_append, List.length_cons]
    omega
end
/-- data that repr shows -/
def Nice (p : PyData) : Prop := wt p < 10 ^ 6 ∧ p.depth ≤ 40
instance (p : PyData) : Decidable (Nice p) := by unfold Nice; exact inferInstance
theorem line_big : 10 ^ 6 ≤ sizeLine := by decide
theorem repr_nice {S : Sto} {d : D} {p : PyData} (h : toPy S d = some p) (hn : Nice p) : reprD S d = some p.shown := by
  unfold reprD
  rw [h]
  obtain ⟨h1, h2⟩ := hn
  obtain ⟨a1, a2, a3⟩ := wt_ok p (Nat.lt_of_lt_of_le h1 (by decide))
  have hl : p.shown.length ≤ sizeLine := by
    have e : p.shown.length = (sh p).length := by unfold sh TL.tl Str.length; simp
    rw [e]
    exact Nat.le_trans a3 (Nat.le_trans (Nat.le_of_lt h1) line_big)
  show (if p.showable = true ∧ p.depth ≤ 40 ∧ p.shown.length ≤ sizeLine then some p.shown else none) = _
  rw [if_pos ⟨a2, h2, hl⟩]
theorem nice_inj {p q : PyData} (hp : Nice p) (hq : Nice q) : p.shown = q.shown ↔ p = q :=
  ⟨fun h => shown_inj (wt_ok p (Nat.lt_of_lt_of_le hp.1 (by decide))).1 (wt_ok q (Nat.lt_of_lt_of_le hq.1 (by decide))).1 h, fun h => by rw [h]⟩
/-- equal texts -/
theorem eq_strs (S : Sto) (x y : Str) : cmpD S .eq (.str x) (.str y) = some (decide (x = y)) := rfl
theorem ne_strs (S : Sto) (x y : Str) : cmpD S .ne (.str x) (.str y) = some (!decide (x = y)) := rfl
/-- a text among texts -/
theorem in_strs (x : Str) (ys : List Str) : inD (.str x) (ys.map D.str) = some (decide (x ∈ ys)) := by
  unfold inD
  have e : (flat (.str x) && (ys.map D.str).all flat) = true := by
    simp [flat]
  rw [if_pos e]
  congr 1
  unfold inV
  rw [List.any_map, Bool.eq_iff_iff, List.any_eq_true, decide_eq_true_eq]
  constructor
  · rintro ⟨z, hz, e⟩
    obtain ⟨y, hy, e2⟩ := List.mem_map.mp hz
    subst e2
    have e : eqV (V.str y) (V.str x) = true := e
    have e : decide (y = x) = true := e
    rw [← of_decide_eq_true e]
    exact hy
  · intro h
    exact ⟨.str x, List.mem_map_of_mem h, decide_eq_true rfl⟩

theorem lstAt_of {S : Sto} {r : Nat} {xs : List D} (h : S[r]? = some (.lst xs)) : lstAt S r = some xs := by
  unfold lstAt
  rw [h]
@[simp] theorem ix_ref (S : Sto) (r : Nat) (i : Int) : ixD S (.ref r) (.int i) = (lstAt S r).bind fun xs => atI xs i := rfl
@[simp] theorem lstAt_set {S : Sto} {r : Nat} {xs : List D} (h : r < S.length) : lstAt (S.set r (.lst xs)) r = some xs := lstAt_of (List.getElem?_set_self h)
@[simp] theorem lstAt_app {S T : Sto} {r : Nat} (h : r < S.length) : lstAt (S ++ T) r = lstAt S r := by
  unfold lstAt
  rw [List.getElem?_append_left h]
@[simp] theorem lstAt_new {S : Sto} {xs : List D} {k : Nat} (h : k = S.length) : lstAt (S ++ [.lst xs]) k = some xs := by
  subst h
  exact lstAt_of (by simp)
@[simp] theorem len_ref (S : Sto) (r : Nat) : biD S .len [.ref r] = (lstAt S r).map fun xs => (.int xs.length, S) := rfl
@[simp] theorem len_tup (S : Sto) (xs : List D) : biD S .len [.tup xs] = some (.int xs.length, S) := rfl
@[simp] theorem len_frz (S : Sto) (xs : List D) : biD S .len [.frz xs] = some (.int xs.length, S) := rfl
theorem ix_lst {S : Sto} {r : Nat} {xs : List D} (h : S[r]? = some (.lst xs)) (i : Int) : ixD S (.ref r) (.int i) = atI xs i := by
  show (lstAt S r).bind (fun xs => atI xs i) = _
  unfold lstAt
  rw [h]
  rfl
@[simp] theorem ix_tup (S : Sto) (xs : List D) (i : Int) : ixD S (.tup xs) (.int i) = atI xs i := rfl
@[simp] theorem ix_frz (S : Sto) (xs : List D) (i : Int) : ixD S (.frz xs) (.int i) = atI xs i := rfl
section
variable {G : List D} {W : Nat} {cal : Cal} {ρ : Loc} {S : Sto} {Pn : Loc → Sto → Prop} {Pr : D → Sto → Prop}
@[simp] theorem Ws_setIx (o i e : E) : Wo (exS G W cal (.setIx o i e) ρ S) Pn Pr ↔ Wp (evE G cal e ρ S) fun v S1 => Wp (evE G cal o ρ S1) fun x S2 => Wp (evE G cal i ρ S2) fun y S3 =>
    IsR x fun r => IsI y fun n => Oo (lstAt S3 r) fun xs => Oo (ixN xs.length n) fun j => Pn ρ (S3.set r (.lst (xs.set j v))) := by
  rw [exS, Wo_ofE]
  refine ⟨fun h => Wp_mono h fun v S1 h => ?_, fun h => Wp_mono h fun v S1 h => ?_⟩
  · rw [Wo_ofE] at h
    refine Wp_mono h fun x S2 h => ?_
    rw [Wo_ofE] at h
    refine Wp_mono h fun y S3 h => ?_
    cases x with
    | ref r =>
      cases y with
      | int n =>
        dsimp only at h
        split at h
        · rename_i xs q
          split at h
          · rename_i j q2
            rw [Wo_nx] at h
            rw [IsR_ref, IsI_int, lstAt_of q, Oo_some, q2]
            exact h
          · exact (Wo_none.mp h).elim
        · exact (Wo_none.mp h).elim
      | _ => exact (Wo_none.mp h).elim
    | _ => cases y <;> exact (Wo_none.mp h).elim
  · rw [Wo_ofE]
    refine Wp_mono h fun x S2 h => ?_
    rw [Wo_ofE]
    refine Wp_mono h fun y S3 h => ?_
    obtain ⟨r, rfl, h⟩ := (IsR_ex _ _).mp h
    obtain ⟨n, rfl, h⟩ := (IsI_ex _ _).mp h
    obtain ⟨xs, q, h⟩ := (Oo_ex _ _).mp h
    obtain ⟨j, q2, h⟩ := (Oo_ex _ _).mp h
    have q : S3[r]? = some (.lst xs) := by
      unfold lstAt at q
      split at q
      · rename_i ys q3
        cases q
        exact q3
      · cases q
    simp only [q, q2]
    exact (Wo_nx _ _).mpr h
end
section
variable {G : List D} {W : Nat} {cal : Cal} {ρ : Loc} {S : Sto} {Pn : Loc → Sto → Prop} {Pr : D → Sto → Prop} {t : Tg} {body : Loc → Sto → Option O} {ok : Sto → Bool}
@[simp] theorem Wfor_nil : Wo (forGo t body ok [] ρ S) Pn Pr ↔ Pn ρ S := by rw [forGo, Wo_nx]
@[simp] theorem Wfor_cons (x : D) (xs : List D) : Wo (forGo t body ok (x :: xs) ρ S) Pn Pr ↔ Oo (setT ρ t x) fun ρ1 => Wo (body ρ1 S) (fun ρ2 S2 => ok S2 = true ∧ Wo (forGo t body ok xs ρ2 S2) Pn Pr) Pr := by
  rw [forGo]
  cases setT ρ t x with
  | none => exact ⟨fun h => (Wo_none.mp h).elim, fun h => h.elim⟩
  | some ρ1 =>
    simp only [Option.bind_some, Oo_some]
    cases body ρ1 S with
    | none => exact ⟨fun h => (Wo_none.mp h).elim, fun h => (Wo_none.mp h).elim⟩
    | some o =>
      cases o with
      | nx ρ2 S2 =>
        rw [Wo_nx]
        show Wo (if ok S2 = true then forGo t body ok xs ρ2 S2 else none) Pn Pr ↔ _
        by_cases h : ok S2 = true
        · rw [if_pos h]; exact ⟨fun z => ⟨h, z⟩, fun z => z.2⟩
        · rw [if_neg h]; exact ⟨fun z => (Wo_none.mp z).elim, fun z => absurd z.1 h⟩
      | rt d S2 => rw [Wo_rt, Wo_rt]
      | ex c v S2 => rw [Wo_exn, Wo_exn]
@[simp] theorem it_tup (xs : List D) : itD S .seq [.tup xs] = some (xs, none) := rfl
@[simp] theorem it_frz (xs : List D) : itD S .seq [.frz xs] = some (xs, none) := rfl
@[simp] theorem it_ref (r : Nat) : itD S .seq [.ref r] = (lstAt S r).map fun xs => (xs, some r) := rfl
theorem it_rng1 (b : Int) : itD S .rng1 [.int b] = if -(2 ^ 62) ≤ b ∧ b < 2 ^ 62 then some (rgD 0 b, none) else none := rfl
theorem it_rng2 (a b : Int) : itD S .rng2 [.int a, .int b] = if -(2 ^ 62) ≤ a ∧ a < 2 ^ 62 ∧ -(2 ^ 62) ≤ b ∧ b < 2 ^ 62 then some (rgD a b, none) else none := rfl
theorem it_rng3 (a b c : Int) : itD S .rng3 [.int a, .int b, .int c] = (rngN a b c).map fun n => ((List.range n).map fun (i : Nat) => D.int (a + (i : Int) * c), none) := rfl
@[simp] theorem still_none (xs : List D) : still none xs S = true := rfl
@[simp] theorem lift2_some (d : D) : lift2 (some (d, S)) = some (.ok d S) := rfl
end
theorem eqD_of {S : Sto} {x y : D} {p q : PyData} (hx : toPy S x = some p) (hy : toPy S y = some q) (h : (SeqAt.shaped p && SeqAt.shaped q) = true) (hs : isStr x = false ∨ isStr y = false) : eqD S x y = some (PyData.eqv p q) := by
  have e : eqD S x y = (toPy S x).bind fun p => (toPy S y).bind fun q => if (SeqAt.shaped p && SeqAt.shaped q) = true then some (PyData.eqv p q) else none := by
    cases x <;> first | rfl | (cases y <;> first | rfl | (rcases hs with z | z <;> cases z))
  rw [e, hx, hy]
  show (if (SeqAt.shaped p && SeqAt.shaped q) = true then some (PyData.eqv p q) else none) = _
  rw [if_pos h]
@[simp] theorem eq_ints (S : Sto) (i j : Int) : cmpD S .eq (.int i) (.int j) = some (decide (i = j)) := by
  show eqD S (.int i) (.int j) = _
  rw [eqD_of (py_int S i) (py_int S j) (by rfl) (.inl rfl)]
  show some (i == j) = _
  congr 1
@[simp] theorem ne_ints (S : Sto) (i j : Int) : cmpD S .ne (.int i) (.int j) = some (!decide (i = j)) := by
  show (eqD S (.int i) (.int j)).map (fun b => !b) = _
  rw [eqD_of (py_int S i) (py_int S j) (by rfl) (.inl rfl)]
  show some (!(i == j)) = _
  congr 1
@[simp] theorem eq_int_non (S : Sto) (i : Int) : cmpD S .eq (.int i) .non = some false := by
  show eqD S (.int i) .non = _
  rw [eqD_of (py_int S i) (py_non S) (by rfl) (.inl rfl)]
  rfl
theorem eqv_ints (is js : List Int) : PyData.eqvAll (is.map PyData.int) (js.map PyData.int) = decide (is = js) := by
  induction is generalizing js with
  | nil => cases js <;> rfl
  | cons i is ih =>
    cases js with
    | nil => rfl
    | cons j js =>
      show (PyData.eqv (.int i) (.int j) && PyData.eqvAll (is.map PyData.int) (js.map PyData.int)) = _
      rw [ih]
      show ((i == j) && decide (is = js)) = _
      rw [Bool.eq_iff_iff]
      simp
theorem shaped_ints (is : List Int) : SeqAt.shaped (.list (is.map PyData.int)) = true := by
  have h1 : ∀ l : List Int, PyData.canLayAll0 (l.map PyData.int) = true := by
    intro l
    induction l with
    | nil => rfl
    | cons x l ih =>
      show (PyData.canLay0 (.int x) && PyData.canLayAll0 (l.map PyData.int)) = true
      rw [ih]; rfl
  have h2 : ∀ l : List Int, PyData.depthAll (l.map PyData.int) ≤ 1 := by
    intro l
    induction l with
    | nil => exact Nat.zero_le _
    | cons x l ih =>
      show max (PyData.depth (.int x)) (PyData.depthAll (l.map PyData.int)) ≤ 1
      exact Nat.max_le.mpr ⟨by rw [PyData.depth]; omega, ih⟩
  unfold SeqAt.shaped
  rw [Bool.and_eq_true]
  refine ⟨h1 is, decide_eq_true ?_⟩
  have := h2 is
  rw [PyData.depth]
  omega
/-- two lists of ints -/
theorem eq_lists {S : Sto} {a b : Nat} {is js : List Int} (ha : lstAt S a = some (is.map D.int)) (hb : lstAt S b = some (js.map D.int)) : cmpD S .eq (.ref a) (.ref b) = some (decide (is = js)) ∧ cmpD S .ne (.ref a) (.ref b) = some (!decide (is = js)) := by
  have get : ∀ {r : Nat} {xs : List D}, lstAt S r = some xs → S[r]? = some (.lst xs) := fun {r xs} h => by
    unfold lstAt at h
    split at h
    · rename_i ys q; cases h; exact q
    · cases h
  have e : eqD S (.ref a) (.ref b) = some (decide (is = js)) := by
    rw [eqD_of (py_ints (get ha)) (py_ints (get hb)) (by rw [shaped_ints, shaped_ints]; rfl) (.inl rfl)]
    show some (PyData.eqvAll _ _) = _
    rw [eqv_ints]
  refine ⟨e, ?_⟩
  show (eqD S (.ref a) (.ref b)).map (fun b => !b) = _
  rw [e]
  rfl
@[simp] theorem eq_bls (S : Sto) (a b : Bool) : cmpD S .eq (.bl a) (.bl b) = some (a == b) := by
  show eqD S (.bl a) (.bl b) = _
  rw [eqD_of (py_bl S a) (py_bl S b) (by rfl) (.inl rfl)]
  rfl
@[simp] theorem ne_bls (S : Sto) (a b : Bool) : cmpD S .ne (.bl a) (.bl b) = some (!(a == b)) := by
  show (eqD S (.bl a) (.bl b)).map (fun b => !b) = _
  rw [eqD_of (py_bl S a) (py_bl S b) (by rfl) (.inl rfl)]
  rfl
@[simp] theorem eq_strs' (S : Sto) (x y : Str) : cmpD S .eq (.str x) (.str y) = some (decide (x = y)) := rfl
@[simp] theorem ne_strs' (S : Sto) (x y : Str) : cmpD S .ne (.str x) (.str y) = some (!decide (x = y)) := rfl
@[simp] theorem lk0 (S T : Sto) (xs : List D) : lstAt (S ++ (.lst xs :: T)) S.length = some xs := lstAt_of (by simp)
@[simp] theorem lk1 (S T : Sto) (a : SO) (xs : List D) : lstAt (S ++ (a :: .lst xs :: T)) (S.length + 1) = some xs := lstAt_of (by rw [List.getElem?_append_right (by omega)]; simp)
@[simp] theorem lk2 (S T : Sto) (a b : SO) (xs : List D) : lstAt (S ++ (a :: b :: .lst xs :: T)) (S.length + 2) = some xs := lstAt_of (by rw [List.getElem?_append_right (by omega)]; simp)
@[simp] theorem lk3 (S T : Sto) (a b c : SO) (xs : List D) : lstAt (S ++ (a :: b :: c :: .lst xs :: T)) (S.length + 3) = some xs := lstAt_of (by rw [List.getElem?_append_right (by omega)]; simp)
end Mi

end
section
set_option Elab.async false
set_option linter.all false
set_option maxRecDepth 100000
set_option maxHeartbeats 0
namespace K59
open PySem PySem.Spec PyProof.Rows L2 Mi
def top (i : Nat) : Stmt := PySem.Challenge.pw_neverrunaway_k59_whole_teeth_that_meet.main.body.getD i (.Pass ⟨0, 0, 0, 0⟩)
def d_is_integer : He.DefD := ⟨("is_integer", none), "is_integer", "is_integer", defArgs (top 5), defBody (top 5), defScope (top 5), [], []⟩
def d_is_between : He.DefD := ⟨("is_between", none), "is_between", "is_between", defArgs (top 6), defBody (top 6), defScope (top 6), [], []⟩
def d_check_teeth : He.DefD := ⟨("check_teeth", none), "check_teeth", "check_teeth", defArgs (top 12), defBody (top 12), defScope (top 12), [], []⟩
def d_check_tooth : He.DefD := ⟨("check_tooth", none), "check_tooth", "check_tooth", defArgs (top 13), defBody (top 13), defScope (top 13), [], []⟩
def d_check_both : He.DefD := ⟨("check_both", none), "check_both", "check_both", defArgs (top 14), defBody (top 14), defScope (top 14), [], []⟩
def d_common : He.DefD := ⟨("common", none), "common", "common", defArgs (top 15), defBody (top 15), defScope (top 15), [], []⟩
def d_tick_of : He.DefD := ⟨("tick_of", none), "tick_of", "tick_of", defArgs (top 16), defBody (top 16), defScope (top 16), [], []⟩
def d_meeting : He.DefD := ⟨("meeting", none), "meeting", "meeting", defArgs (top 17), defBody (top 17), defScope (top 17), [], []⟩
def d_shows_meeting : He.DefD := ⟨("shows_meeting", none), "shows_meeting", "shows_meeting", defArgs (top 18), defBody (top 18), defScope (top 18), [], []⟩
def d_again_of : He.DefD := ⟨("again_of", none), "again_of", "again_of", defArgs (top 19), defBody (top 19), defScope (top 19), [], []⟩
def d_again : He.DefD := ⟨("again", none), "again", "again", defArgs (top 20), defBody (top 20), defScope (top 20), [], []⟩
def d_pairs_met : He.DefD := ⟨("pairs_met", none), "pairs_met", "pairs_met", defArgs (top 21), defBody (top 21), defScope (top 21), [], []⟩
def d_is_hunting : He.DefD := ⟨("is_hunting", none), "is_hunting", "is_hunting", defArgs (top 22), defBody (top 22), defScope (top 22), [], []⟩
def d_mates : He.DefD := ⟨("mates", none), "mates", "mates", defArgs (top 23), defBody (top 23), defScope (top 23), [], []⟩
def d__law_pot : He.DefD := ⟨("_law_pot", none), "_law_pot", "_law_pot", defArgs (top 25), defBody (top 25), defScope (top 25), [], []⟩
def d__law_take : He.DefD := ⟨("_law_take", none), "_law_take", "_law_take", defArgs (top 26), defBody (top 26), defScope (top 26), [], []⟩
def d__law_of : He.DefD := ⟨("_law_of", none), "_law_of", "_law_of", defArgs (top 27), defBody (top 27), defScope (top 27), [], []⟩
def d__law_cells : He.DefD := ⟨("_law_cells", none), "_law_cells", "_law_cells", defArgs (top 28), defBody (top 28), defScope (top 28), [], []⟩
def d__law_is_int : He.DefD := ⟨("_law_is_int", none), "_law_is_int", "_law_is_int", defArgs (top 29), defBody (top 29), defScope (top 29), [], []⟩
def d__law_odd : He.DefD := ⟨("_law_odd", none), "_law_odd", "_law_odd", defArgs (top 30), defBody (top 30), defScope (top 30), [], []⟩
def d__law_bent : He.DefD := ⟨("_law_bent", none), "_law_bent", "_law_bent", defArgs (top 31), defBody (top 31), defScope (top 31), [], []⟩
def d__law_right : He.DefD := ⟨("_law_right", none), "_law_right", "_law_right", defArgs (top 32), defBody (top 32), defScope (top 32), [], []⟩
def d_law : He.DefD := ⟨("law", none), "law", "law", defArgs (top 33), defBody (top 33), defScope (top 33), [], []⟩
def fn : List He.DefD := [d_is_integer, d_is_between, d_check_teeth, d_check_tooth, d_check_both, d_common, d_tick_of, d_meeting, d_shows_meeting, d_again_of, d_again, d_pairs_met, d_is_hunting, d_mates, d__law_pot, d__law_take, d__law_of, d__law_cells, d__law_is_int, d__law_odd, d__law_bent, d__law_right, d_law]
def Gn : List (Str × D) := [("LEAST_TEETH", .int 2), ("MOST_TEETH", .int 200), ("TICK", .str "tick"), ("NEVER", .str "never")]
def b_is_integer : List Sm := [.ret (.and [.bi (.isi "int") [.var 0], .not (.bi (.isi "bool") [.var 0])])]
def f_is_integer : Fd := ⟨"is_integer", 1, 1, b_is_integer⟩
def b_is_between : List Sm := [.ret (.and [.call 0 [.var 0], .chain .le .le (.var 1) (.var 0) (.var 2)])]
def f_is_between : Fd := ⟨"is_between", 3, 3, b_is_between⟩
def b_check_teeth : List Sm := [.for_ (.one 2) .seq [.tup [.var 0, .var 1]] [.ite (.not (.call 1 [.var 2, .glb 0, .glb 1])) [.never] []]]
def f_check_teeth : Fd := ⟨"check_teeth", 2, 3, b_check_teeth⟩
def b_check_tooth : List Sm := [.ite (.not (.call 1 [.var 1, .lit (.int 0), .op .sub (.var 0) (.lit (.int 1))])) [.never] []]
def f_check_tooth : Fd := ⟨"check_tooth", 2, 2, b_check_tooth⟩
def b_check_both : List Sm := [.expr (.call 2 [.var 0, .var 1]), .expr (.call 3 [.var 0, .var 2]), .expr (.call 3 [.var 1, .var 3])]
def f_check_both : Fd := ⟨"check_both", 4, 4, b_check_both⟩
def b_common : List Sm := [.whl (.cmp .ne (.var 1) (.lit (.int 0))) [.asg (.tup [0, 1]) (.tup [.var 1, .op .mod (.var 0) (.var 1)])], .ret (.var 0)]
def f_common : Fd := ⟨"common", 2, 2, b_common⟩
def b_tick_of : List Sm := [.asg (.one 4) (.lc [5] (.one 5) .rng3 [.var 2, .op .mul (.var 0) (.var 1), .var 0] [.cmp .eq (.op .mod (.var 5) (.var 1)) (.var 3)] (.var 5)), .ret (.ite (.cmp .ne (.var 4) (.lst [])) (.ix (.var 4) (.lit (.int 0))) (.lit .non))]
def f_tick_of : Fd := ⟨"tick_of", 4, 6, b_tick_of⟩
def b_meeting : List Sm := [.expr (.call 4 [.var 0, .var 1, .var 2, .var 3]), .asg (.one 4) (.call 6 [.var 0, .var 1, .var 2, .var 3]), .ret (.ite (.cmp .isN (.var 4) (.lit .non)) (.tup [.glb 3, .call 5 [.var 0, .var 1]]) (.tup [.glb 2, .var 4]))]
def f_meeting : Fd := ⟨"meeting", 4, 5, b_meeting⟩
def b_shows_meeting : List Sm := [.expr (.call 4 [.var 0, .var 1, .var 2, .var 3]), .ite (.or [.not (.bi (.isi "tuple") [.var 4]), .cmp .ne (.bi .len [.var 4]) (.lit (.int 2)), .not (.bi (.isi "str") [.ix (.var 4) (.lit (.int 0))]), .not (.call 0 [.ix (.var 4) (.lit (.int 1))])]) [.ret (.lit (.bl false))] [], .ite (.cmp .eq (.ix (.var 4) (.lit (.int 0))) (.glb 2)) [.ret (.cmp .eq (.ix (.var 4) (.lit (.int 1))) (.call 6 [.var 0, .var 1, .var 2, .var 3]))] [], .ite (.or [.cmp .ne (.ix (.var 4) (.lit (.int 0))) (.glb 3), .cmp .lt (.ix (.var 4) (.lit (.int 1))) (.lit (.int 2)), .cmp .ne (.op .mod (.var 0) (.ix (.var 4) (.lit (.int 1)))) (.lit (.int 0)), .cmp .ne (.op .mod (.var 1) (.ix (.var 4) (.lit (.int 1)))) (.lit (.int 0))]) [.ret (.lit (.bl false))] [], .ret (.cmp .ne (.op .mod (.var 2) (.ix (.var 4) (.lit (.int 1)))) (.op .mod (.var 3) (.ix (.var 4) (.lit (.int 1)))))]
def f_shows_meeting : Fd := ⟨"shows_meeting", 5, 5, b_shows_meeting⟩
def b_again_of : List Sm := [.ret (.op .fdiv (.op .mul (.var 0) (.var 1)) (.call 5 [.var 0, .var 1]))]
def f_again_of : Fd := ⟨"again_of", 2, 2, b_again_of⟩
def b_again : List Sm := [.expr (.call 2 [.var 0, .var 1]), .ret (.call 9 [.var 0, .var 1])]
def f_again : Fd := ⟨"again", 2, 2, b_again⟩
def b_pairs_met : List Sm := [.expr (.call 2 [.var 0, .var 1]), .ret (.call 9 [.var 0, .var 1])]
def f_pairs_met : Fd := ⟨"pairs_met", 2, 2, b_pairs_met⟩
def b_is_hunting : List Sm := [.expr (.call 2 [.var 0, .var 1]), .ret (.cmp .eq (.call 9 [.var 0, .var 1]) (.op .mul (.var 0) (.var 1)))]
def f_is_hunting : Fd := ⟨"is_hunting", 2, 2, b_is_hunting⟩
def b_mates : List Sm := [.expr (.call 2 [.var 0, .var 1]), .expr (.call 3 [.var 0, .var 2]), .ret (.bi .tuple [.bi .sset [.lc [3] (.one 3) .rng3 [.var 2, .op .mul (.var 0) (.var 1), .var 0] [] (.op .mod (.var 3) (.var 1))]])]
def f_mates : Fd := ⟨"mates", 3, 4, b_mates⟩
def b__law_pot : List Sm := [.asg (.one 2) (.ite (.cmp .lt (.var 1) (.bi .len [.var 0])) (.ix (.var 0) (.var 1)) (.op .add (.op .add (.op .mod (.bi .sum [.slc (.var 0) none (some (.lit (.int 1)))]) (.lit (.int 1000289))) (.op .mul (.lit (.int 5623)) (.var 1))) (.lit (.int 853)))), .asg (.one 3) (.op .mul (.op .mod (.bi .int [.bi .abs [.var 2]]) (.op .pow (.op .pow (.lit (.int 10)) (.lit (.int 60))) (.lit (.int 5)))) (.bi .int [.cmp .ge (.bi .abs [.var 2]) (.op .pow (.lit (.int 10)) (.lit (.int 18)))])), .asg (.one 4) (.op .mod (.bi .int [.var 2]) (.lit (.int 2305843009213693951))), .ret (.lst [.var 3, .op .mod (.bi .int [.op .add (.op .add (.op .mul (.var 4) (.lit (.int 68917))) (.op .mul (.op .mul (.lit (.int 7103)) (.var 1)) (.var 1))) (.lit (.int 1153))]) (.lit (.int 2305843009213693921)), .lit (.int 0)])]
def f__law_pot : Fd := ⟨"_law_pot", 2, 5, b__law_pot⟩
def b__law_take : List Sm := [.ite (.cmp .gt (.ix (.var 0) (.lit (.int 0))) (.lit (.int 0))) [.asg (.one 2) (.op .mod (.bi .int [.ix (.var 0) (.lit (.int 0))]) (.var 1)), .setIx (.var 0) (.lit (.int 0)) (.op .fdiv (.ix (.var 0) (.lit (.int 0))) (.var 1)), .ret (.var 2)] [], .setIx (.var 0) (.lit (.int 2)) (.op .add (.ix (.var 0) (.lit (.int 2))) (.lit (.int 1))), .asg (.one 3) (.ix (.lst [.lit (.int 2147482219), .lit (.int 2147482217), .lit (.int 2147482207), .lit (.int 2147482201), .lit (.int 2147482187)]) (.op .mod (.bi .int [.ix (.var 0) (.lit (.int 2))]) (.lit (.int 5)))), .asg (.one 4) (.op .mod (.bi .int [.op .pow (.bi .int [.op .add (.op .add (.ix (.var 0) (.lit (.int 1))) (.op .mul (.op .mul (.lit (.int 73951)) (.ix (.var 0) (.lit (.int 2)))) (.ix (.var 0) (.lit (.int 2))))) (.lit (.int 1931))]) (.lit (.int 3))]) (.var 3)), .asg (.one 4) (.op .mod (.bi .int [.op .mul (.var 4) (.op .add (.op .mod (.bi .int [.var 4]) (.lit (.int 7993))) (.op .mul (.lit (.int 263)) (.ix (.var 0) (.lit (.int 2)))))]) (.lit (.int 2305843009213693907))), .ret (.op .mod (.bi .int [.op .fdiv (.var 4) (.lit (.int 163))]) (.var 1))]
def f__law_take : Fd := ⟨"_law_take", 2, 5, b__law_take⟩
def b__law_of : List Sm := [.ret (.ix (.var 1) (.call 15 [.var 0, .bi .len [.var 1]]))]
def f__law_of : Fd := ⟨"_law_of", 2, 2, b__law_of⟩
def b__law_cells : List Sm := [.ret (.bi .rng1 [.bi .max2 [.lit (.int 1), .bi .min2 [.var 1, .bi .len [.var 0]]]])]
def f__law_cells : Fd := ⟨"_law_cells", 2, 2, b__law_cells⟩
def b__law_is_int : List Sm := [.ret (.and [.bi (.isi "int") [.var 0], .not (.bi (.isi "bool") [.var 0]), .chain .le .le (.var 1) (.var 0) (.var 2)])]
def f__law_is_int : Fd := ⟨"_law_is_int", 3, 3, b__law_is_int⟩
def b__law_odd : List Sm := [.asg (.one 1) (.lst [.lit .non, .lit (.bl true), .lit (.bl false), .lit (.int 0), .lit (.int 1), .neg (.lit (.int 1)), .lit (.int 7), .op .pow (.lit (.int 10)) (.lit (.int 11)), .lit (.str ""), .lit (.str "a"), .lit (.str "book"), .tup [], .tup [.lit (.int 0)], .tup [.lit .non], .lst [], .lst [.lit (.int 0)], .dic [] [], .dic ["a"] [.lit (.int 1)], .tup [.tup [.lit (.int 0), .lit (.int 0)]]]), .ret (.call 16 [.var 0, .var 1])]
def f__law_odd : Fd := ⟨"_law_odd", 1, 2, b__law_odd⟩
def b__law_bent : List Sm := [.ite (.and [.bi (.isi "tuple") [.var 1], .cmp .ne (.var 1) (.tup []), .cmp .ne (.call 15 [.var 0, .lit (.int 5)]) (.lit (.int 0))]) [.asg (.one 2) (.call 15 [.var 0, .bi .len [.var 1]]), .ret (.op .add (.op .add (.slc (.var 1) none (some (.var 2))) (.tup [.call 20 [.var 0, .ix (.var 1) (.var 2)]])) (.slc (.var 1) (some (.op .add (.var 2) (.lit (.int 1)))) none))] [], .ite (.bi (.isi "tuple") [.var 1]) [.asg (.one 3) (.bi .lst [.var 1]), .ret (.call 16 [.var 0, .lst [.var 3, .slc (.var 1) none (some (.neg (.lit (.int 1)))), .op .add (.var 1) (.slc (.var 1) none (some (.lit (.int 1)))), .op .add (.var 1) (.tup [.lit (.int 0)]), .rev (.var 1), .tup [.var 1], .slc (.var 3) none (some (.lit (.int 1))), .call 19 [.var 0]]])] [], .ite (.call 18 [.var 1, .neg (.op .pow (.lit (.int 10)) (.lit (.int 30))), .op .pow (.lit (.int 10)) (.lit (.int 30))]) [.ret (.call 16 [.var 0, .lst [.op .add (.var 1) (.lit (.int 1)), .op .sub (.var 1) (.lit (.int 1)), .neg (.var 1), .bi .str [.var 1], .cmp .eq (.var 1) (.lit (.int 1)), .call 19 [.var 0]]])] [], .ret (.call 19 [.var 0])]
def f__law_bent : Fd := ⟨"_law_bent", 2, 4, b__law_bent⟩
def b__law_right : List Sm := [.asg (.tup [2, 3]) (.tup [.op .add (.lit (.int 2)) (.call 15 [.var 0, .op .sub (.var 1) (.lit (.int 1))]), .op .add (.lit (.int 2)) (.call 15 [.var 0, .op .sub (.var 1) (.lit (.int 1))])]), .asg (.tup [4, 5]) (.tup [.call 15 [.var 0, .var 2], .call 15 [.var 0, .var 3]]), .asg (.one 6) (.lc [7] (.one 7) .rng3 [.var 4, .op .mul (.var 2) (.var 3), .var 2] [.cmp .eq (.op .mod (.var 7) (.var 3)) (.var 5)] (.var 7)), .asg (.one 8) (.lc [9] (.one 9) .rng2 [.lit (.int 2), .op .add (.bi .min2 [.var 2, .var 3]) (.lit (.int 1))] [.and [.cmp .eq (.op .mod (.var 2) (.var 9)) (.lit (.int 0)), .cmp .eq (.op .mod (.var 3) (.var 9)) (.lit (.int 0)), .cmp .ne (.op .mod (.var 4) (.var 9)) (.op .mod (.var 5) (.var 9))]] (.var 9)), .asg (.one 10) (.ite (.cmp .ne (.var 6) (.lst [])) (.lst [.bi .repr [.tup [.lit (.str "tick"), .ix (.var 6) (.lit (.int 0))]]]) (.lc [9] (.one 9) .seq [.var 8] [] (.bi .repr [.tup [.lit (.str "never"), .var 9]]))), .asg (.one 11) (.call 7 [.var 2, .var 3, .var 4, .var 5]), .ite (.or [.cmp .notIn (.bi .repr [.var 11]) (.var 10), .cmp .ne (.cmp .eq (.var 6) (.lst [])) (.cmp .ne (.var 8) (.lst []))]) [.ret (.lit (.bl false))] [], .asg (.one 12) (.lst [.var 11, .bi .lst [.var 11], .slc (.var 11) none (some (.lit (.int 1))), .op .add (.var 11) (.tup [.lit (.int 0)]), .rev (.var 11), .tup [.lit (.str "tick"), .lit (.int 0)], .tup [.lit (.str "tick"), .var 4], .tup [.lit (.str "never"), .lit (.int 1)], .tup [.lit (.str "never"), .lit (.int 0)], .tup [.lit (.str "Never"), .lit (.int 2)], .lit .non, .tup [], .call 19 [.var 0]]), .expr (.ext (.var 12) (.op .add (.lc [7] (.one 7) .seq [.slc (.var 6) none (some (.lit (.int 5)))] [] (.tup [.lit (.str "tick"), .var 7])) (.lc [9] (.one 9) .rng2 [.lit (.int 2), .lit (.int 8)] [] (.tup [.lit (.str "never"), .var 9])))), .expr (.ext (.var 12) (.op .add (.lst [.tup [.lit (.str "never"), .lit (.bl true)], .tup [.lit (.str "tick"), .lit (.bl false)]]) (.lc [13] (.one 13) .rng1 [.lit (.int 4)] [] (.call 20 [.var 0, .var 11])))), .ite (.not (.bi .all [.lc [14] (.one 14) .seq [.var 12] [] (.cmp .eq (.bi .repr [.call 8 [.var 2, .var 3, .var 4, .var 5, .var 14]]) (.bi .repr [.cmp .isIn (.bi .repr [.var 14]) (.var 10)]))])) [.ret (.lit (.bl false))] [], .asg (.one 15) (.lit (.int 1)), .whl (.or [.cmp .ne (.op .mod (.var 15) (.var 2)) (.lit (.int 0)), .cmp .ne (.op .mod (.var 15) (.var 3)) (.lit (.int 0))]) [.asg (.one 15) (.op .add (.var 15) (.lit (.int 1)))], .ite (.cmp .ne (.bi .repr [.tup [.call 10 [.var 2, .var 3], .call 11 [.var 2, .var 3], .call 12 [.var 2, .var 3]]]) (.bi .repr [.tup [.var 15, .var 15, .cmp .eq (.var 15) (.op .mul (.var 2) (.var 3))]])) [.ret (.lit (.bl false))] [], .asg (.one 16) (.bi .sset [.lc [7] (.one 7) .rng3 [.var 4, .var 15, .var 2] [] (.op .mod (.var 7) (.var 3))]), .ret (.and [.cmp .eq (.bi .repr [.call 13 [.var 2, .var 3, .var 4]]) (.bi .repr [.bi .tuple [.var 16]]), .cmp .eq (.cmp .isIn (.var 5) (.var 16)) (.cmp .ne (.var 6) (.lst [])), .cmp .eq (.op .mul (.bi .len [.var 16]) (.var 2)) (.var 15)])]
def f__law_right : Fd := ⟨"_law_right", 2, 17, b__law_right⟩
def b_law : List Sm := [.for_ (.one 1) .seq [.call 17 [.var 0, .lit (.int 3)]] [.asg (.one 2) (.call 14 [.var 0, .var 1]), .ite (.not (.bi .all [.lc [3] (.one 3) .seq [.tup [.lit (.int 12), .lit (.int 40), .lit (.int 40), .lit (.int 200)]] [] (.call 21 [.var 2, .var 3])])) [.ret (.lit (.bl false))] []], .ret (.lit (.bl true))]
def f_law : Fd := ⟨"law", 1, 4, b_law⟩
def T : List Fd := [f_is_integer, f_is_between, f_check_teeth, f_check_tooth, f_check_both, f_common, f_tick_of, f_meeting, f_shows_meeting, f_again_of, f_again, f_pairs_met, f_is_hunting, f_mates, f__law_pot, f__law_take, f__law_of, f__law_cells, f__law_is_int, f__law_odd, f__law_bent, f__law_right, f_law]
def NP : List (List Str × List Str) := [(["value"], ["value"]),
  (["value", "low", "high"], ["value", "low", "high"]),
  (["one", "other", "value"], ["one", "other"]),
  (["many", "tooth"], ["many", "tooth"]),
  (["one", "other", "first", "second"], ["one", "other", "first", "second"]),
  (["one", "other"], ["one", "other"]),
  (["one", "other", "first", "second", "some", "tick"], ["one", "other", "first", "second"]),
  (["one", "other", "first", "second", "tick"], ["one", "other", "first", "second"]),
  (["one", "other", "first", "second", "value"], ["one", "other", "first", "second", "value"]),
  (["one", "other"], ["one", "other"]),
  (["one", "other"], ["one", "other"]),
  (["one", "other"], ["one", "other"]),
  (["one", "other"], ["one", "other"]),
  (["one", "other", "tooth", "tick"], ["one", "other", "tooth"]),
  (["script", "place", "cell", "own", "small"], ["script", "place"]),
  (["pot", "upto", "digit", "prime", "blend"], ["pot", "upto"]),
  (["pot", "some"], ["pot", "some"]),
  (["script", "most"], ["script", "most"]),
  (["value", "low", "high"], ["value", "low", "high"]),
  (["pot", "some"], ["pot"]),
  (["pot", "value", "at", "row"], ["pot", "value"]),
  (["pot", "high", "one", "other", "first", "second", "ticks", "tick", "divisors", "number", "papers", "told", "values", "lap", "value", "round_ticks", "met"], ["pot", "high"]),
  (["script", "place", "pot", "high"], ["script"])]
abbrev R : PySem.W.OpenRow := PySem.W.OpenLaw.row PySem.Challenge.rw_neverrunaway_k59_whole_teeth_that_meet
abbrev fa : List He.Fa := faOf fn Gn
abbrev hk : PySem.W.Hook := hookS 4 fa fn
def ob (s : PySem.W.SharedT) : He.AlD × Bool := obsS 4 fa fn (HandSHeadRun.getT s)
theorem ob_eq (s : PySem.W.SharedT) : ob s = hk.obs s.abs := obsS_eq (HandSHeadRun.getT_eq s)
def names0 : List PySem.Str := ["MillError", "BadTeeth", "BadTooth", "LEAST_TEETH", "MOST_TEETH", "TICK", "NEVER", "is_integer", "is_between", "check_teeth", "check_tooth", "check_both", "common", "tick_of", "meeting", "shows_meeting", "again_of", "again", "pairs_met", "is_hunting", "mates", "_law_pot", "_law_take", "_law_of", "_law_cells", "_law_is_int", "_law_odd", "_law_bent", "_law_right"]
def names : List PySem.Str := names0
theorem run (w : World) : HandSHeadRun.RunEq R (PySem.W.view R.prog [33]) hk ob 3000 names w := by
  intro os
  kernel_rfl
theorem chk : chkAll Gn T fn T NP = true := by kernel_rfl
theorem bn_is_integer : OneBinds d_is_integer ["value"] := fun K a fd F => F.bindsN fun _ _ _ _ _ _ us hl => match us, hl with | [_], _ => rfl
theorem bn_is_between : OneBinds d_is_between ["value", "low", "high"] := fun K a fd F => F.bindsN fun _ _ _ _ _ _ us hl => match us, hl with | [_, _, _], _ => rfl
theorem bn_check_teeth : OneBinds d_check_teeth ["one", "other"] := fun K a fd F => F.bindsN fun _ _ _ _ _ _ us hl => match us, hl with | [_, _], _ => rfl
theorem bn_check_tooth : OneBinds d_check_tooth ["many", "tooth"] := fun K a fd F => F.bindsN fun _ _ _ _ _ _ us hl => match us, hl with | [_, _], _ => rfl
theorem bn_check_both : OneBinds d_check_both ["one", "other", "first", "second"] := fun K a fd F => F.bindsN fun _ _ _ _ _ _ us hl => match us, hl with | [_, _, _, _], _ => rfl
theorem bn_common : OneBinds d_common ["one", "other"] := fun K a fd F => F.bindsN fun _ _ _ _ _ _ us hl => match us, hl with | [_, _], _ => rfl
theorem bn_tick_of : OneBinds d_tick_of ["one", "other", "first", "second"] := fun K a fd F => F.bindsN fun _ _ _ _ _ _ us hl => match us, hl with | [_, _, _, _], _ => rfl
theorem bn_meeting : OneBinds d_meeting ["one", "other", "first", "second"] := fun K a fd F => F.bindsN fun _ _ _ _ _ _ us hl => match us, hl with | [_, _, _, _], _ => rfl
theorem bn_shows_meeting : OneBinds d_shows_meeting ["one", "other", "first", "second", "value"] := fun K a fd F => F.bindsN fun _ _ _ _ _ _ us hl => match us, hl with | [_, _, _, _, _], _ => rfl
theorem bn_again_of : OneBinds d_again_of ["one", "other"] := fun K a fd F => F.bindsN fun _ _ _ _ _ _ us hl => match us, hl with | [_, _], _ => rfl
theorem bn_again : OneBinds d_again ["one", "other"] := fun K a fd F => F.bindsN fun _ _ _ _ _ _ us hl => match us, hl with | [_, _], _ => rfl
theorem bn_pairs_met : OneBinds d_pairs_met ["one", "other"] := fun K a fd F => F.bindsN fun _ _ _ _ _ _ us hl => match us, hl with | [_, _], _ => rfl
theorem bn_is_hunting : OneBinds d_is_hunting ["one", "other"] := fun K a fd F => F.bindsN fun _ _ _ _ _ _ us hl => match us, hl with | [_, _], _ => rfl
theorem bn_mates : OneBinds d_mates ["one", "other", "tooth"] := fun K a fd F => F.bindsN fun _ _ _ _ _ _ us hl => match us, hl with | [_, _, _], _ => rfl
theorem bn__law_pot : OneBinds d__law_pot ["script", "place"] := fun K a fd F => F.bindsN fun _ _ _ _ _ _ us hl => match us, hl with | [_, _], _ => rfl
theorem bn__law_take : OneBinds d__law_take ["pot", "upto"] := fun K a fd F => F.bindsN fun _ _ _ _ _ _ us hl => match us, hl with | [_, _], _ => rfl
theorem bn__law_of : OneBinds d__law_of ["pot", "some"] := fun K a fd F => F.bindsN fun _ _ _ _ _ _ us hl => match us, hl with | [_, _], _ => rfl
theorem bn__law_cells : OneBinds d__law_cells ["script", "most"] := fun K a fd F => F.bindsN fun _ _ _ _ _ _ us hl => match us, hl with | [_, _], _ => rfl
theorem bn__law_is_int : OneBinds d__law_is_int ["value", "low", "high"] := fun K a fd F => F.bindsN fun _ _ _ _ _ _ us hl => match us, hl with | [_, _, _], _ => rfl
theorem bn__law_odd : OneBinds d__law_odd ["pot"] := fun K a fd F => F.bindsN fun _ _ _ _ _ _ us hl => match us, hl with | [_], _ => rfl
theorem bn__law_bent : OneBinds d__law_bent ["pot", "value"] := fun K a fd F => F.bindsN fun _ _ _ _ _ _ us hl => match us, hl with | [_, _], _ => rfl
theorem bn__law_right : OneBinds d__law_right ["pot", "high"] := fun K a fd F => F.bindsN fun _ _ _ _ _ _ us hl => match us, hl with | [_, _], _ => rfl
theorem bn_law : OneBinds d_law ["script"] := fun K a fd F => F.bindsN fun _ _ _ _ _ _ us hl => match us, hl with | [_], _ => rfl
theorem binds : AllBinds fn NP := ⟨bn_is_integer, bn_is_between, bn_check_teeth, bn_check_tooth, bn_check_both, bn_common, bn_tick_of, bn_meeting, bn_shows_meeting, bn_again_of, bn_again, bn_pairs_met, bn_is_hunting, bn_mates, bn__law_pot, bn__law_take, bn__law_of, bn__law_cells, bn__law_is_int, bn__law_odd, bn__law_bent, bn__law_right, bn_law, trivial⟩
abbrev lawIx : Nat := 22
abbrev lawTop : Nat := 33
end K59

end
section
set_option Elab.async false
set_option linter.all false
set_option maxRecDepth 100000
set_option maxHeartbeats 1000000
namespace K59
open PySem L2 Mi
theorem W0_ex : ∃ n : Nat, 100000 ≤ n := ⟨100000, Nat.le_refl _⟩
noncomputable def W0 : Nat := Classical.choose W0_ex
theorem W0_ge : 100000 ≤ W0 := Classical.choose_spec W0_ex
def G : List D := Gn.map (·.2)
noncomputable abbrev cal (n : Nat) : Cal := calF G W0 T n
/-- a pot in the store -/
structure Pot (N : Int) (r : Nat) (S : Sto) : Prop where
  ex : ∃ a b c : Int, S[r]? = some (.lst [.int a, .int b, .int c]) ∧ 0 ≤ a ∧ a < 10 ^ 300 ∧ 0 ≤ b ∧ b < 2 ^ 62 ∧ 0 ≤ c ∧ c ≤ N
theorem w_take {n : Nat} {r : Nat} {S : Sto} {N upto : Int} {P : D → Sto → Prop} (h : Pot N r S) (hN : N < 2 ^ 40) (h1 : 1 ≤ upto) (h2 : upto < 2 ^ 60)
    (k : ∀ (v : Int) (S' : Sto), 0 ≤ v → v < upto → Pot (N + 1) r S' → Fr [r] S S' → P (.int v) S') : Wp (cal (n + 1) 15 [.ref r, .int upto] S) P := by
  obtain ⟨a, b, c, e, a0, a1, b0, b1, c0, c1⟩ := h
  refine Wp_call (F := f__law_take) rfl rfl ?_
  show Wo (exSs G W0 (cal n) b__law_take _ S) _ _
  have hr : r < S.length := (List.getElem?_eq_some_iff.mp e).1
  simp [b__law_take, f__law_take, lstAt_of e, atI, ixN, hr]
  have hb : (2 : Int) ^ 60 < 2 ^ 4096 := by decide
  split
  · rename_i ha
    refine ⟨by omega, fdOk_of (by omega) (by omega), k _ _ (Int.emod_nonneg _ (by omega)) (Int.emod_lt_of_pos _ (by omega)) ⟨a / upto, b, c, List.getElem?_set_self hr, Int.ediv_nonneg a0 (by omega), ?_, b0, b1, c0, by omega⟩ (Fr.put List.mem_cons_self _ _)⟩
    have := Int.ediv_le_self upto a0
    omega
  · have h5 : (c + 1) % 5 = 0 ∨ (c + 1) % 5 = 1 ∨ (c + 1) % 5 = 2 ∨ (c + 1) % 5 = 3 ∨ (c + 1) % 5 = 4 := by omega
    have hz : 5 ≤ sizeLine := by decide
    have cc : 73951 * (c + 1) * (c + 1) < 2 ^ 100 := by
      have h1 : 73951 * (c + 1) ≤ 2 ^ 58 := by omega
      have h2 : 73951 * (c + 1) * (c + 1) ≤ 2 ^ 58 * (c + 1) := Int.mul_le_mul_of_nonneg_right h1 (by omega)
      omega
    have cc0 : 0 ≤ 73951 * (c + 1) * (c + 1) := Int.mul_nonneg (by omega) (by omega)
    have e100 : (2 : Int) ^ 102 < 2 ^ 4096 := by decide
    have p3 : powOk (b + 73951 * (c + 1) * (c + 1) + 1931) 3 := ⟨by decide, by decide, by omega, by omega⟩
    have m1 : mulOk 73951 (c + 1) := .inl ⟨by decide, by decide⟩
    have m2 : mulOk (73951 * (c + 1)) (c + 1) := .inr (.inl ⟨by omega, by omega⟩)
    refine ⟨hz, ?_⟩
    rcases h5 with h5 | h5 | h5 | h5 | h5
    all_goals
      simp [h5, hr, m1, m2, p3]
      generalize (b + 73951 * (c + 1) * (c + 1) + 1931) ^ 3 = X
      refine ⟨by first | omega | exact fdOk_of (by omega) (by omega) | exact .inl ⟨by omega, by omega⟩, by first | omega | exact .inl ⟨by omega, by omega⟩, by first | omega | exact fdOk_of (by omega) (by omega) | exact .inl ⟨by omega, by omega⟩, by omega, k _ _ (Int.emod_nonneg _ (by omega)) (Int.emod_lt_of_pos _ (by omega)) ⟨a, b, c + 1, ?_, a0, a1, b0, b1, by omega, by omega⟩ ((Fr.put List.mem_cons_self _ _).trans (Fr.grow _ _ _))⟩
      rw [List.getElem?_append_left (by simpa using hr)]
      exact List.getElem?_set_self hr
end K59

end
section
set_option Elab.async false
set_option linter.all false
set_option maxRecDepth 100000
set_option maxHeartbeats 1000000
namespace K59
open PySem L2 Mi
section
variable {n : Nat} {S : Sto} {P : D → Sto → Prop}
theorem w_is_integer {d : D} (h : Ty S d) (k : P (.bl (isInt d)) S) : Wp (cal (n + 1) 0 [d] S) P := by
  refine Wp_call (F := f_is_integer) rfl rfl ?_
  show Wo (exSs G W0 (cal n) b_is_integer _ S) _ _
  simp [b_is_integer, f_is_integer, isi_int h, isi_bool h]
  cases d <;> simpa [isInt, isBl] using k
theorem w_is_between {i lo hi : Int} (k : P (.bl (decide (lo ≤ i) && decide (i ≤ hi))) S) : Wp (cal (n + 2) 1 [.int i, .int lo, .int hi] S) P := by
  refine Wp_call (F := f_is_between) rfl rfl ?_
  show Wo (exSs G W0 (cal (n + 1)) b_is_between _ S) _ _
  simp [b_is_between, f_is_between]
  refine w_is_integer (by exact trivial) ?_
  by_cases h : lo ≤ i <;> simpa [isInt, h] using k
theorem w_check_teeth {one other : Int} (h1 : 2 ≤ one) (h2 : one ≤ 200) (h3 : 2 ≤ other) (h4 : other ≤ 200) (k : P .non S) : Wp (cal (n + 3) 2 [.int one, .int other] S) P := by
  refine Wp_call (F := f_check_teeth) rfl rfl ?_
  show Wo (exSs G W0 (cal (n + 2)) b_check_teeth _ S) _ _
  have hz : 2 ≤ sizeLine := by decide
  have g0 : G[0]? = some (.int 2) := rfl
  have g1 : G[1]? = some (.int 200) := rfl
  simp [b_check_teeth, f_check_teeth, hz, g0, g1]
  refine w_is_between ?_
  simp [h1, h2]
  refine w_is_between ?_
  simp [h3, h4]
  exact k
theorem w_check_tooth {many tooth : Int} (h1 : 0 ≤ tooth) (h2 : tooth < many) (k : P .non S) : Wp (cal (n + 3) 3 [.int many, .int tooth] S) P := by
  refine Wp_call (F := f_check_tooth) rfl rfl ?_
  show Wo (exSs G W0 (cal (n + 2)) b_check_tooth _ S) _ _
  simp [b_check_tooth, f_check_tooth]
  refine w_is_between ?_
  have : tooth ≤ many - 1 := by omega
  simp [h1, this]
  exact k
theorem w_check_both {one other first second : Int} (h1 : 2 ≤ one) (h2 : one ≤ 200) (h3 : 2 ≤ other) (h4 : other ≤ 200) (a1 : 0 ≤ first) (a2 : first < one) (b1 : 0 ≤ second) (b2 : second < other) (k : P .non S) :
    Wp (cal (n + 4) 4 [.int one, .int other, .int first, .int second] S) P := by
  refine Wp_call (F := f_check_both) rfl rfl ?_
  show Wo (exSs G W0 (cal (n + 3)) b_check_both _ S) _ _
  simp [b_check_both, f_check_both]
  refine w_check_teeth h1 h2 h3 h4 ?_
  refine w_check_tooth a1 a2 ?_
  exact w_check_tooth b1 b2 k
/-- the greatest common divisor -/
theorem w_common {one other : Nat} (h : other < 1000) (k : P (.int (Nat.gcd one other : Nat)) S) : Wp (cal (n + 1) 5 [.int one, .int other] S) P := by
  refine Wp_call (F := f_common) rfl rfl ?_
  show Wo (exSs G W0 (cal n) b_common _ S) _ _
  simp only [b_common, Ws_cons, Ws_whl]
  refine W_whl (fun j ρ S' => S' = S ∧ ∃ a : Nat, ρ = [some (.int a), some (.int j)] ∧ Nat.gcd a j = Nat.gcd one other) ?_ W0 other _ S (by have := W0_ge; omega) ⟨rfl, one, rfl, rfl⟩
  rintro b ρ S' ⟨rfl, a, rfl, hg⟩
  have hz : 2 ≤ sizeLine := by decide
  simp only [ev_cmp, ev_var, ev_lit, Wp_bnd, Wp_tst, Wp_ok, Wp_map, List.getElem?_cons_zero, List.getElem?_cons_succ, ne_ints, Oo_some, IsB_bl]
  by_cases hb : b = 0
  · subst hb
    rw [Nat.gcd_zero_right] at hg
    simp [hg]
    exact k
  · simp [hb, hz]
    refine ⟨by omega, a % b, Nat.mod_lt a (by omega), b, ⟨rfl, rfl⟩, ?_⟩
    rw [Nat.gcd_comm b (a % b), ← Nat.gcd_rec, Nat.gcd_comm]
    exact hg
/-! ### the ticks -/
def ticks (one other first second : Nat) : List Nat := ((List.range other).map fun k => first + k * one).filter fun t => t % other == second
def nD (t : Nat) : D := .int (t : Int)
theorem rng_n {one other first : Nat} (h1 : 2 ≤ one) (h2 : one ≤ 200) (h3 : other ≤ 200) (ha : first < one) : rngN first ((one : Int) * other) one = some other := by
  unfold rngN
  have hp : one * other ≤ 200 * 200 := Nat.mul_le_mul h2 h3
  have hc : ((one : Int) * other) = ((one * other : Nat) : Int) := by simp
  rw [if_pos (by rw [hc]; omega)]
  congr 1
  rw [hc]
  have e : (((one * other : Nat) : Int) - (first : Int) + (one : Int) - 1) / (one : Int) = (other : Int) := by
    have e1 : (((one * other : Nat) : Int) - (first : Int) + (one : Int) - 1) = ((one - 1 - first : Nat) : Int) + (one : Int) * (other : Int) := by
      rw [← hc]; omega
    rw [e1, Int.add_mul_ediv_left _ _ (by omega)]
    have : (((one - 1 - first : Nat) : Int)) / (one : Int) = 0 := Int.ediv_eq_zero_of_lt (by omega) (by omega)
    omega
  rw [e]
  rfl
theorem items_n (first one other : Nat) : (List.range other).map (fun (i : Nat) => D.int ((first : Int) + (i : Int) * (one : Int))) = ((List.range other).map fun k => first + k * one).map nD := by
  rw [List.map_map]
  refine List.map_congr_left fun i _ => ?_
  show D.int _ = D.int (((first + i * one : Nat)) : Int)
  congr 1
theorem filter_n (p : D → Bool) (q : Nat → Bool) (h : ∀ t, p (nD t) = q t) (l : List Nat) : (l.map nD).filter p = (l.filter q).map nD := by
  rw [List.filter_map]
  congr 1
  exact List.filter_congr fun t _ => h t
theorem nD_map (l : List Nat) : l.map nD = (l.map fun (t : Nat) => (t : Int)).map D.int := by rw [List.map_map]; rfl
theorem ticks_len (one other first second : Nat) : (ticks one other first second).length ≤ other := by
  unfold ticks
  refine Nat.le_trans (List.length_filter_le _ _) ?_
  rw [List.length_map, List.length_range]
  exact Nat.le_refl _
theorem w_tick_of {one other first second : Nat} (h1 : 2 ≤ one) (h2 : one ≤ 200) (h3 : 2 ≤ other) (h4 : other ≤ 200) (a2 : first < one)
    (k : ∀ S', Gw S S' → P (match ticks one other first second with | [] => .non | t :: _ => nD t) S') : Wp (cal (n + 1) 6 [.int one, .int other, .int first, .int second] S) P := by
  refine Wp_call (F := f_tick_of) rfl rfl ?_
  show Wo (exSs G W0 (cal n) b_tick_of _ S) _ _
  have hz : 0 ≤ sizeLine := by decide
  have hm : mulOk one other := .inl ⟨by omega, by omega⟩
  have hi : itD S .rng3 [.int (first : Int), .int ((one : Int) * other), .int one] = some (((List.range other).map fun k => first + k * one).map nD, none) := by
    rw [it_rng3, rng_n h1 h2 h4 a2, Option.map_some, items_n]
  simp [b_tick_of, f_tick_of]
  rw [Wp_lc]
  simp only [evs_cons, evs_nil, Wp_bnd, Wp_ok, ev_var, ev_op, ov_mul, Wp_lift2, Ot_if, Ot_some, hm, hi, Oo_some, List.getElem?_cons_zero, List.getElem?_cons_succ, true_and]
  refine W_plain (fun d => match d with | .int t => decide (t % other = second) | _ => false) id rfl (fun x hx => ?_) (fun x hx _ => ?_) ?_
  · obtain ⟨t, _, rfl⟩ := List.mem_map.mp hx
    simp [nD, wipeD]
    omega
  · simp [wipeD]
  · rw [List.map_id, filter_n _ (fun t => t % other == second) (fun t => by
      show decide ((t : Int) % other = second) = (t % other == second)
      rw [Bool.eq_iff_iff, decide_eq_true_eq, beq_iff_eq]
      omega)]
    have hl := ticks_len one other first second
    have h5 : 200 ≤ sizeLine := by decide
    refine ⟨by show ((ticks one other first second).map nD).length ≤ sizeLine; rw [List.length_map]; omega, ?_⟩
    show Oo _ _
    simp
    have he := (eq_lists (S := S ++ [.lst ((ticks one other first second).map nD), .lst []]) (a := S.length) (b := S.length + 1) (is := (ticks one other first second).map fun (t : Nat) => (t : Int)) (js := []) (by rw [lk0, nD_map]) (by rw [lk1]; rfl)).2
    have he : cmpD (S ++ [.lst (List.map nD (List.filter (fun t => t % other == second) (List.map (fun k => first + k * one) (List.range other)))), .lst []]) .ne (.ref S.length) (.ref (S.length + 1)) = _ := he
    rw [he]
    have k := k _ (Gw.more S [.lst ((ticks one other first second).map nD), .lst []])
    change (if (!decide ((ticks one other first second).map (fun (t : Nat) => (t : Int)) = [])) = true then Oo (atI ((ticks one other first second).map nD) 0) (fun r => P r (S ++ [.lst ((ticks one other first second).map nD), .lst []])) else P .non (S ++ [.lst ((ticks one other first second).map nD), .lst []]))
    generalize ticks one other first second = L at k ⊢
    cases L with
    | nil => exact k
    | cons t l =>
      simp [atI, ixN]
      exact k
theorem w_meeting {one other first second : Nat} (h1 : 2 ≤ one) (h2 : one ≤ 200) (h3 : 2 ≤ other) (h4 : other ≤ 200) (a2 : first < one) (b2 : second < other)
    (k : ∀ S', Gw S S' → P (match ticks one other first second with | [] => .tup [.str "never", nD (Nat.gcd one other)] | t :: _ => .tup [.str "tick", nD t]) S') : Wp (cal (n + 5) 7 [.int one, .int other, .int first, .int second] S) P := by
  refine Wp_call (F := f_meeting) rfl rfl ?_
  show Wo (exSs G W0 (cal (n + 4)) b_meeting _ S) _ _
  have g2 : G[2]? = some (.str "tick") := rfl
  have g3 : G[3]? = some (.str "never") := rfl
  have hz : 2 ≤ sizeLine := by decide
  simp [b_meeting, f_meeting]
  refine w_check_both (by omega) (by omega) (by omega) (by omega) (by omega) (by omega) (by omega) (by omega) ?_
  refine w_tick_of h1 h2 h3 h4 a2 fun S1 hw => ?_
  have k := k S1 hw
  generalize ticks one other first second = L at k ⊢
  cases L with
  | nil =>
    simp [isNonD, g3, hz]
    refine w_common (one := one) (other := other) (by omega) ?_
    exact k
  | cons t l =>
    simp [isNonD, nD, g2, hz]
    exact k
end
end K59

end
section
set_option Elab.async false
set_option linter.all false
set_option maxRecDepth 100000
set_option maxHeartbeats 1000000
namespace K59
open PySem L2 Mi
theorem ty_py {S : Sto} {d : D} {p : PyData} (h : toPy S d = some p) : Ty S d := by
  cases d with
  | ref r =>
    show r < S.length
    unfold toPy at h
    rw [toPyW, toPyR] at h
    cases q : S[r]? with
    | none => rw [q] at h; cases h
    | some o => exact (List.getElem?_eq_some_iff.mp q).1
  | _ => trivial
theorem tup_py {S : Sto} {xs : List D} {p : PyData} (h : toPy S (.tup xs) = some p) : ∃ ps, toPys S xs = some ps ∧ p = .tuple ps := by
  rw [py_tup] at h
  cases q : toPys S xs with
  | none => rw [q] at h; cases h
  | some ps => rw [q] at h; cases h; exact ⟨ps, rfl, rfl⟩
theorem cons_py {S : Sto} {x : D} {xs : List D} {ps : List PyData} (h : toPys S (x :: xs) = some ps) : ∃ p qs, toPy S x = some p ∧ toPys S xs = some qs ∧ ps = p :: qs := by
  rw [pys_cons] at h
  cases q : toPy S x with
  | none => rw [q] at h; cases h
  | some p =>
    rw [q] at h
    cases q2 : toPys S xs with
    | none => rw [q2] at h; cases h
    | some qs => rw [q2] at h; cases h; exact ⟨p, qs, rfl, rfl, rfl⟩
theorem nil_py {S : Sto} {ps : List PyData} (h : toPys S [] = some ps) : ps = [] := by
  rw [pys_nil] at h
  cases h
  rfl
/-- what is said of a pair -/
def says (one other first second : Nat) (x : Str) (m : Int) : Bool :=
  if x = "tick" then (match ticks one other first second with | [] => false | t :: _ => decide (m = t))
  else if x = "never" then decide (2 ≤ m) && decide ((one : Int) % m = 0) && decide ((other : Int) % m = 0) && !decide ((first : Int) % m = (second : Int) % m)
  else false
def showsD (one other first second : Nat) : D → Bool
  | .tup [.str x, .int m] => says one other first second x m
  | _ => false
def showsV (one other first second : Nat) : PyData → Bool
  | .tuple [.str x, .int m] => says one other first second x m
  | _ => false
theorem py_int_inv {S : Sto} {d : D} {i : Int} (h : toPy S d = some (.int i)) : d = .int i := by
  unfold toPy at h
  cases d with
  | int j => rw [toPyW] at h; cases h; rfl
  | non => rw [toPyW] at h; cases h
  | bl b => rw [toPyW] at h; cases h
  | str x => rw [toPyW] at h; cases h
  | tup xs => rw [toPyW] at h; cases q : toPysW (toPyR S 8) xs <;> rw [q] at h <;> cases h
  | frz xs => rw [toPyW] at h; cases q : toPysW (toPyR S 8) xs <;> rw [q] at h <;> cases h
  | ref r =>
    rw [toPyW, toPyR] at h
    split at h
    · rename_i xs _; cases q : toPysW (toPyR S 7) xs <;> rw [q] at h <;> cases h
    · rename_i kvs _; cases q : toPysW (toPyR S 7) (kvs.map (·.2)) <;> rw [q] at h <;> cases h
    · cases h
theorem py_str_inv {S : Sto} {d : D} {i : Str} (h : toPy S d = some (.str i)) : d = .str i := by
  unfold toPy at h
  cases d with
  | str j => rw [toPyW] at h; cases h; rfl
  | non => rw [toPyW] at h; cases h
  | bl b => rw [toPyW] at h; cases h
  | int x => rw [toPyW] at h; cases h
  | tup xs => rw [toPyW] at h; cases q : toPysW (toPyR S 8) xs <;> rw [q] at h <;> cases h
  | frz xs => rw [toPyW] at h; cases q : toPysW (toPyR S 8) xs <;> rw [q] at h <;> cases h
  | ref r =>
    rw [toPyW, toPyR] at h
    split at h
    · rename_i xs _; cases q : toPysW (toPyR S 7) xs <;> rw [q] at h <;> cases h
    · rename_i kvs _; cases q : toPysW (toPyR S 7) (kvs.map (·.2)) <;> rw [q] at h <;> cases h
    · cases h
theorem py_tup_inv {S : Sto} {d : D} {ps : List PyData} (h : toPy S d = some (.tuple ps)) : ∃ xs, d = .tup xs ∧ toPys S xs = some ps := by
  cases d with
  | tup xs =>
    obtain ⟨qs, h1, h2⟩ := tup_py h
    cases h2
    exact ⟨xs, rfl, h1⟩
  | non => rw [py_non] at h; cases h
  | bl b => rw [py_bl] at h; cases h
  | int x => rw [py_int] at h; cases h
  | str x => rw [py_str] at h; cases h
  | frz xs => unfold toPy at h; rw [toPyW] at h; cases q : toPysW (toPyR S 8) xs <;> rw [q] at h <;> cases h
  | ref r =>
    unfold toPy at h
    rw [toPyW, toPyR] at h
    split at h
    · rename_i xs _; cases q : toPysW (toPyR S 7) xs <;> rw [q] at h <;> cases h
    · rename_i kvs _; cases q : toPysW (toPyR S 7) (kvs.map (·.2)) <;> rw [q] at h <;> cases h
    · cases h
theorem shows_py {one other first second : Nat} {S : Sto} {d : D} {p : PyData} (h : toPy S d = some p) : showsD one other first second d = showsV one other first second p := by
  by_cases hp : ∃ x m, p = .tuple [.str x, .int m]
  · obtain ⟨x, m, rfl⟩ := hp
    obtain ⟨xs, rfl, h1⟩ := py_tup_inv h
    match xs, h1 with
    | [], h1 => cases nil_py h1
    | [a], h1 =>
      obtain ⟨p, qs, _, h3, h4⟩ := cons_py h1
      cases nil_py h3
      cases h4
    | [a, b], h1 =>
      obtain ⟨p, qs, h2, h3, h4⟩ := cons_py h1
      obtain ⟨p', qs', h5, h6, h7⟩ := cons_py h3
      cases h7
      cases h4
      cases py_str_inv h2
      cases py_int_inv h5
      rfl
    | a :: b :: c :: r, h1 =>
      obtain ⟨p, qs, h2, h3, h4⟩ := cons_py h1
      obtain ⟨p', qs', h5, h6, h7⟩ := cons_py h3
      obtain ⟨p'', qs'', h8, h9, h10⟩ := cons_py h6
      subst h10 h7
      cases h4
  · have e1 : showsV one other first second p = false := by
      unfold showsV
      split
      · rename_i x m
        exact absurd ⟨x, m, rfl⟩ hp
      · rfl
    have e2 : showsD one other first second d = false := by
      unfold showsD
      split
      · rename_i x m
        exfalso
        rw [py_tup, pys_cons, pys_cons, pys_nil, py_str, py_int] at h
        cases h
        exact hp ⟨x, m, rfl⟩
      · rfl
    rw [e1, e2]
section
variable {n : Nat} {S : Sto} {P : D → Sto → Prop}
theorem w_shows {one other first second : Nat} {d : D} {p : PyData} (h1 : 2 ≤ one) (h2 : one ≤ 200) (h3 : 2 ≤ other) (h4 : other ≤ 200) (a2 : first < one) (b2 : second < other) (hd : toPy S d = some p)
    (k : ∀ S', Gw S S' → P (.bl (showsD one other first second d)) S') : Wp (cal (n + 5) 8 [.int one, .int other, .int first, .int second, d] S) P := by
  refine Wp_call (F := f_shows_meeting) rfl rfl ?_
  show Wo (exSs G W0 (cal (n + 4)) b_shows_meeting _ S) _ _
  have g2 : G[2]? = some (.str "tick") := rfl
  have g3 : G[3]? = some (.str "never") := rfl
  simp [b_shows_meeting, f_shows_meeting, g2, g3]
  refine w_check_both (by omega) (by omega) (by omega) (by omega) (by omega) (by omega) (by omega) (by omega) ?_
  simp [isi_tup (ty_py hd)]
  have kf : showsD one other first second d = false → P (.bl false) S := fun e => by
    have z := k S (Gw.refl S)
    rw [e] at z
    exact z
  cases d with
  | tup xs =>
    simp [isTup]
    match xs, hd with
    | [], hd => simp; exact kf rfl
    | [a], hd => simp; exact kf (by unfold showsD; split <;> first | rfl | (rename_i q; cases q))
    | a :: b :: c :: r, hd =>
      have e : ¬ (((r.length : Int) + 1 + 1 + 1) = 2) := by omega
      simp [e]
      exact kf (by unfold showsD; split <;> first | rfl | (rename_i q; cases q))
    | [a, b], hd =>
      obtain ⟨ps, hd, _⟩ := tup_py hd
      obtain ⟨p1, qs, q1, q2, _⟩ := cons_py hd
      obtain ⟨p2, _, q3, _, _⟩ := cons_py q2
      simp [atI, ixN, isi_str (ty_py q1)]
      cases a with
      | str x =>
        simp [isStr]
        refine w_is_integer (ty_py q3) ?_
        cases b with
        | int m =>
          simp [isInt]
          have ks : ∀ b S', Gw S S' → says one other first second x m = b → P (.bl b) S' := fun b S' hw e => by
            have z := k S' hw
            have e2 : showsD one other first second (.tup [.str x, .int m]) = b := e
            rw [e2] at z
            exact z
          by_cases hx : x = "tick"
          · rw [if_pos hx]
            refine w_tick_of h1 h2 h3 h4 a2 fun S1 hw => ?_
            have ks := fun b => ks b S1 hw
            unfold says at ks
            rw [if_pos hx] at ks
            generalize ticks one other first second = L at ks ⊢
            cases L with
            | nil => simp; exact ks _ rfl
            | cons t l => simp [nD]; exact ks _ rfl
          · rw [if_neg hx]
            have ks := fun b => ks b S (Gw.refl S)
            unfold says at ks
            rw [if_neg hx] at ks
            by_cases hn : x = "never"
            · rw [if_pos hn]
              rw [if_pos hn] at ks
              by_cases g1 : m < 2
              · rw [if_pos g1]
                exact ks _ (by rw [decide_eq_false (by omega : ¬ 2 ≤ m)]; rfl)
              · rw [if_neg g1]
                refine ⟨by omega, ?_⟩
                by_cases g2 : (one : Int) % m = 0
                · rw [if_pos g2]
                  refine ⟨by omega, ?_⟩
                  by_cases g3 : (other : Int) % m = 0
                  · rw [if_pos g3]
                    refine ⟨by omega, ks _ ?_⟩
                    rw [decide_eq_true (by omega : 2 ≤ m), decide_eq_true g2, decide_eq_true g3]
                    rfl
                  · rw [if_neg g3]
                    exact ks _ (by rw [decide_eq_false g3]; simp)
                · rw [if_neg g2]
                  exact ks _ (by rw [decide_eq_false g2]; simp)
            · rw [if_neg hn]
              rw [if_neg hn] at ks
              exact ks _ rfl
        | _ => simp [isInt]; exact kf rfl
      | _ => simp [isStr]; exact kf rfl
  | _ => simp [isTup]; exact kf rfl
end
end K59

end
section
set_option Elab.async false
set_option linter.all false
set_option maxRecDepth 100000
set_option maxHeartbeats 1000000
namespace K59
open PySem L2 Mi
theorem intsOf_map : ∀ is : List Int, intsOf (is.map D.int) = some is
  | [] => rfl
  | i :: is => by
    show (intsOf (is.map D.int)).map (fun js => i :: js) = _
    rw [intsOf_map is]
    rfl
theorem bv_sset {S : Sto} {r : Nat} {is : List Int} (h : lstAt S r = some (is.map D.int)) (hl : is.length < 4000) : biD S .sset [.ref r] = some (.ref S.length, S ++ [.lst ((ssetI is).map .int)]) := by
  show (lstAt S r).bind (fun xs => (intsOf xs).bind fun is => if is.length < 4000 then some (D.ref S.length, S ++ [.lst ((ssetI is).map .int)]) else none) = _
  rw [h]
  show (intsOf (is.map D.int)).bind _ = _
  rw [intsOf_map]
  show (if is.length < 4000 then _ else none) = _
  rw [if_pos hl]
theorem bv_tuple {S : Sto} {r : Nat} {xs : List D} (h : lstAt S r = some xs) : biD S .tuple [.ref r] = some (.tup xs, S) := by
  show (lstAt S r).map (fun xs => (D.tup xs, S)) = _
  rw [h]
  rfl
section
variable {n : Nat} {S : Sto} {P : D → Sto → Prop}
theorem w_again_of {one other : Nat} (h1 : 2 ≤ one) (h2 : one ≤ 200) (h3 : 2 ≤ other) (h4 : other ≤ 200) (k : P (nD (Nat.lcm one other)) S) : Wp (cal (n + 2) 9 [.int one, .int other] S) P := by
  refine Wp_call (F := f_again_of) rfl rfl ?_
  show Wo (exSs G W0 (cal (n + 1)) b_again_of _ S) _ _
  have hm : mulOk one other := .inl ⟨by omega, by omega⟩
  simp only [b_again_of, f_again_of, Ws_cons, Ws_nil, Ws_ret, ev_op, ev_call, evs_cons, evs_nil, ev_var, Wp_bnd, Wp_ok, Wp_lift2, ov_mul, Ot_if, Ot_some, hm, true_and, List.getElem?_cons_zero, List.getElem?_cons_succ, List.map_cons, List.map_nil, List.length_cons, List.length_nil, List.cons_append, List.nil_append, List.replicate, Nat.reduceAdd, Nat.reduceSub]
  refine w_common (one := one) (other := other) (by omega) ?_
  have g0 : 0 < Nat.gcd one other := Nat.gcd_pos_of_pos_left _ (by omega)
  have g1 : Nat.gcd one other ≤ one := Nat.gcd_le_left _ (by omega)
  rw [ov_fdiv, Ot_if, Ot_some]
  refine ⟨fdOk_of (by omega) (by omega), ?_⟩
  have e : ((one : Int) * (other : Int)) / ((Nat.gcd one other : Nat) : Int) = ((Nat.lcm one other : Nat) : Int) := by
    unfold Nat.lcm
    rw [Int.natCast_ediv, Int.natCast_mul]
  rw [e]
  exact k
theorem w_again {one other : Nat} (h1 : 2 ≤ one) (h2 : one ≤ 200) (h3 : 2 ≤ other) (h4 : other ≤ 200) (k : P (nD (Nat.lcm one other)) S) : Wp (cal (n + 4) 10 [.int one, .int other] S) P := by
  refine Wp_call (F := f_again) rfl rfl ?_
  show Wo (exSs G W0 (cal (n + 3)) b_again _ S) _ _
  simp [b_again, f_again]
  refine w_check_teeth (by omega) (by omega) (by omega) (by omega) ?_
  exact w_again_of h1 h2 h3 h4 k
theorem w_pairs_met {one other : Nat} (h1 : 2 ≤ one) (h2 : one ≤ 200) (h3 : 2 ≤ other) (h4 : other ≤ 200) (k : P (nD (Nat.lcm one other)) S) : Wp (cal (n + 4) 11 [.int one, .int other] S) P := by
  refine Wp_call (F := f_pairs_met) rfl rfl ?_
  show Wo (exSs G W0 (cal (n + 3)) b_pairs_met _ S) _ _
  simp [b_pairs_met, f_pairs_met]
  refine w_check_teeth (by omega) (by omega) (by omega) (by omega) ?_
  exact w_again_of h1 h2 h3 h4 k
theorem w_is_hunting {one other : Nat} (h1 : 2 ≤ one) (h2 : one ≤ 200) (h3 : 2 ≤ other) (h4 : other ≤ 200) (k : P (.bl (decide (Nat.lcm one other = one * other))) S) : Wp (cal (n + 4) 12 [.int one, .int other] S) P := by
  refine Wp_call (F := f_is_hunting) rfl rfl ?_
  show Wo (exSs G W0 (cal (n + 3)) b_is_hunting _ S) _ _
  simp [b_is_hunting, f_is_hunting]
  refine w_check_teeth (by omega) (by omega) (by omega) (by omega) ?_
  refine w_again_of h1 h2 h3 h4 ?_
  have hm : mulOk one other := .inl ⟨by omega, by omega⟩
  refine ⟨hm, ?_⟩
  simp only [nD, eq_ints, Oo_some]
  have e : decide (((Nat.lcm one other : Nat) : Int) = (one : Int) * (other : Int)) = decide (Nat.lcm one other = one * other) := by
    rw [Bool.eq_iff_iff, decide_eq_true_eq, decide_eq_true_eq]
    omega
  rw [e]
  exact k
/-- the teeth that are met over so many steps -/
def met (one other first m : Nat) : List Int := ssetI ((List.range m).map fun k => (((first + k * one) % other : Nat) : Int))
theorem w_mates {one other first : Nat} (h1 : 2 ≤ one) (h2 : one ≤ 200) (h3 : 2 ≤ other) (h4 : other ≤ 200) (a2 : first < one) (k : ∀ S', Gw S S' → P (.tup ((met one other first other).map .int)) S') : Wp (cal (n + 4) 13 [.int one, .int other, .int first] S) P := by
  refine Wp_call (F := f_mates) rfl rfl ?_
  show Wo (exSs G W0 (cal (n + 3)) b_mates _ S) _ _
  have hm : mulOk one other := .inl ⟨by omega, by omega⟩
  have hi : itD S .rng3 [.int (first : Int), .int ((one : Int) * other), .int one] = some (((List.range other).map fun k => first + k * one).map nD, none) := by
    rw [it_rng3, rng_n h1 h2 h4 a2, Option.map_some, items_n]
  simp [b_mates, f_mates]
  refine w_check_teeth (by omega) (by omega) (by omega) (by omega) ?_
  refine w_check_tooth (by omega) (by omega) ?_
  rw [Wp_lc]
  simp only [evs_cons, evs_nil, Wp_bnd, Wp_ok, ev_var, ev_op, ov_mul, Wp_lift2, Ot_if, Ot_some, hm, hi, Oo_some, List.getElem?_cons_zero, List.getElem?_cons_succ, true_and]
  refine W_plain (fun _ => true) (fun d => match d with | .int t => .int (t % other) | d => d) rfl (fun x hx => ?_) (fun x hx _ => ?_) ?_
  · simp
  · obtain ⟨t, _, rfl⟩ := List.mem_map.mp hx
    simp [nD, wipeD]
    omega
  · have e : ((((List.range other).map fun k => first + k * one).map nD).filter fun _ => true).map (fun d => match d with | .int t => D.int (t % other) | d => d) = ((List.range other).map fun k => (((first + k * one) % other : Nat) : Int)).map D.int := by
      rw [List.filter_eq_self.mpr (fun _ _ => rfl), List.map_map, List.map_map, List.map_map]
      refine List.map_congr_left fun i _ => ?_
      show D.int (((first + i * one : Nat) : Int) % (other : Int)) = D.int (((first + i * one) % other : Nat) : Int)
      rfl
    rw [e]
    have h5 : 200 ≤ sizeLine := by decide
    refine ⟨by rw [List.length_map, List.length_map, List.length_range]; omega, ?_⟩
    rw [bv_sset (lk0 _ [] _) (by rw [List.length_map, List.length_range]; omega), Ot_some, bv_tuple (lstAt_new rfl), Ot_some]
    exact k _ ((Gw.more _ _).trans (Gw.more _ _))
end
end K59

end
section
set_option Elab.async false
set_option linter.all false
set_option maxRecDepth 100000
set_option maxHeartbeats 1000000
namespace K59
open PySem L2 Mi
theorem Pot.mono {N M : Int} {r : Nat} {S S' : Sto} (h : Pot N r S) (e : S'[r]? = S[r]?) (hm : N ≤ M) : Pot M r S' := by
  obtain ⟨a, b, c, h1, h2, h3, h4, h5, h6, h7⟩ := h
  exact ⟨a, b, c, e.trans h1, h2, h3, h4, h5, h6, by omega⟩
theorem Pot.lt {N : Int} {r : Nat} {S : Sto} (h : Pot N r S) : r < S.length := by
  obtain ⟨a, b, c, h1, _⟩ := h.ex
  exact (List.getElem?_eq_some_iff.mp h1).1
theorem Pot.grow {N : Int} {r : Nat} {S : Sto} (h : Pot N r S) (T : Sto) : Pot N r (S ++ T) := h.mono (List.getElem?_append_left h.lt) (by omega)
/-- a value that repr shows, apart from the pot -/
def NiceB (b : Nat) (p : PyData) : Prop := wt p < b * 1000 ∧ p.depth ≤ b
instance (b : Nat) (p : PyData) : Decidable (NiceB b p) := by unfold NiceB; exact inferInstance
theorem NiceB.nice {b : Nat} {p : PyData} (h : NiceB b p) (hb : b ≤ 40) : Nice p := ⟨by have := h.1; omega, Nat.le_trans h.2 hb⟩
def Val (b : Nat) (X : List Nat) (S : Sto) (d : D) : Prop := ∃ p, Py X S d p ∧ NiceB b p
theorem Val.mono {b : Nat} {X : List Nat} {S S' : Sto} {d : D} (f : Fr X S S') (h : Val b X S d) : Val b X S' d := let ⟨p, h1, h2⟩ := h; ⟨p, h1.mono f, h2⟩
theorem lstAt_fr {X : List Nat} {l : Nat} {S S' : Sto} {xs : List D} (f : Fr X S S') (h : lstAt S l = some xs) (n : l ∉ X) : lstAt S' l = some xs := by
  have e : S[l]? = some (.lst xs) := by
    unfold lstAt at h
    split at h
    · rename_i ys q; cases h; exact q
    · cases h
  exact lstAt_of (f.at_ e n)
section
variable {n : Nat} {S : Sto} {P : D → Sto → Prop} {r b : Nat} {N : Int} {X : List Nat}
theorem one_sub (h : r ∈ X) : ∀ x ∈ [r], x ∈ X := fun x hx => by rw [List.mem_singleton.mp hx]; exact h
theorem atI_some {xs : List D} {v : Int} (h0 : 0 ≤ v) (h1 : v < xs.length) : ∃ x, atI xs v = some x ∧ x ∈ xs := by
  have hv : v.toNat < xs.length := by omega
  refine ⟨xs[v.toNat], ?_, List.getElem_mem hv⟩
  unfold atI ixN
  rw [if_pos h0, if_pos h1]
  show xs[v.toNat]? = _
  exact List.getElem?_eq_getElem hv
theorem w_of {l : Nat} {xs : List D} (h : Pot N r S) (hN : N < 2 ^ 39) (hl : lstAt S l = some xs) (hX : r ∈ X) (hlr : l ∉ X) (h0 : xs ≠ []) (h1 : xs.length < 1000) (hv : ∀ x ∈ xs, Val b X S x)
    (k : ∀ x S', Pot (N + 1) r S' → Fr [r] S S' → Val b X S' x → P x S') : Wp (cal (n + 2) 16 [.ref r, .ref l] S) P := by
  refine Wp_call (F := f__law_of) rfl rfl ?_
  show Wo (exSs G W0 (cal (n + 1)) b__law_of _ S) _ _
  have hp : 0 < xs.length := List.length_pos_iff.mpr h0
  simp [b__law_of, f__law_of, hl]
  refine w_take h (by omega) (by omega) (by omega) fun v S' v0 v1 hp' f => ?_
  obtain ⟨x, e, hx⟩ := atI_some v0 v1
  simp [lstAt_fr (f.sub (one_sub hX)) hl hlr, e]
  exact k x S' hp' f ((hv x hx).mono (f.sub (one_sub hX)))
theorem val_flat {d : D} {p : PyData} (h : Fl d p) (hn : NiceB b p) : Val b X S d := ⟨p, h.any _, hn⟩
theorem hide_at {j : Nat} {o : SO} (h : S[j]? = some o) (n : j ∉ X) : (hide X S)[j]? = some o := by
  rw [hide_out n]
  exact h
/-- data without the store -/
def PuD (d : D) (p : PyData) : Prop := ∀ f, toPyW f d = some p
def PuDs (ds : List D) (ps : List PyData) : Prop := ∀ f, toPysW f ds = some ps
theorem PuDs.nil : PuDs [] [] := fun f => by rw [toPysW]
theorem PuDs.cons {d : D} {ds : List D} {p : PyData} {ps : List PyData} (h : PuD d p) (hs : PuDs ds ps) : PuDs (d :: ds) (p :: ps) := fun f => by
  rw [toPysW, h f, hs f]; rfl
theorem fl_pu {d : D} {p : PyData} (h : Fl d p) : PuD d p := fun f => h.any f
theorem PuDs.tup {ds : List D} {ps : List PyData} (h : PuDs ds ps) : PuD (.tup ds) (.tuple ps) := fun f => by rw [toPyW, h f]; rfl
theorem PuD.val {d : D} {p : PyData} (h : PuD d p) (hn : NiceB b p) : Val b X S d := ⟨p, h _, hn⟩
theorem val_lst {j : Nat} {ds : List D} {ps : List PyData} (h : S[j]? = some (.lst ds)) (n : j ∉ X) (hs : PuDs ds ps) (hn : NiceB b (.list ps)) : Val b X S (.ref j) := by
  refine ⟨.list ps, ?_, hn⟩
  unfold Py toPy
  rw [toPyW, toPyR, hide_at h n]
  dsimp only
  rw [hs]
  rfl
theorem val_dct {j : Nat} {kvs : List (Key × D)} {ps : List PyData} (h : S[j]? = some (.dct kvs)) (n : j ∉ X) (hs : PuDs (kvs.map (·.2)) ps) (hn : NiceB b (.dict ((kvs.map fun q => tkey q.1).zip ps))) : Val b X S (.ref j) := by
  refine ⟨_, ?_, hn⟩
  unfold Py toPy
  rw [toPyW, toPyR, hide_at h n]
  dsimp only
  rw [hs]
  rfl
theorem val_tup1 {d : D} {p : PyData} (h : Py X S d p) (hn : NiceB b (.tuple [p])) : Val b X S (.tup [d]) := by
  refine ⟨_, ?_, hn⟩
  unfold Py at h ⊢
  rw [py_tup, pys_cons, pys_nil, h]
  rfl
/-- the strange values -/
theorem w_odd (h : Pot N r S) (hN : N < 2 ^ 38) (hX : r ∈ X) (hXS : ∀ x ∈ X, x < S.length) (k : ∀ x S', Pot (N + 1) r S' → Fr [r] S S' → Val 5 X S' x → P x S') : Wp (cal (n + 3) 19 [.ref r] S) P := by
  refine Wp_call (F := f__law_odd) rfl rfl ?_
  show Wo (exSs G W0 (cal (n + 2)) b__law_odd _ S) _ _
  have hz : 100 ≤ sizeLine := by decide
  have hr := h.lt
  have nX : ∀ j, S.length ≤ j → j ∉ X := fun j hj z => by have := hXS j z; omega
  have p11 : powOk 10 11 := ⟨by decide, by decide, by decide, by decide⟩
  have z2 : 2 ≤ sizeLine := by omega
  have z1 : 1 ≤ sizeLine := by omega
  have z19 : 19 ≤ sizeLine := by omega
  simp [b__law_odd, f__law_odd, z1, z2, z19, p11]
  refine w_of (h.grow _) (by omega) (xs := [.non, .bl true, .bl false, .int 0, .int 1, .int (-1), .int 7, .int 100000000000, .str "", .str "a", .str "book", .tup [], .tup [.int 0], .tup [.non], .ref S.length, .ref (S.length + 1), .ref (S.length + 2), .ref (S.length + 3), .tup [.tup [.int 0, .int 0]]]) ?_ hX (nX _ (by omega)) (by simp) (by simp) ?_ fun x S' a b c => k x S' a ((Fr.grow _ _ _).trans b) c
  · exact lstAt_of (by rw [List.getElem?_append_right (by omega)]; simp)
  · intro x hx
    simp only [List.mem_cons, List.not_mem_nil, or_false] at hx
    rcases hx with rfl | rfl | rfl | rfl | rfl | rfl | rfl | rfl | rfl | rfl | rfl | rfl | rfl | rfl | rfl | rfl | rfl | rfl | rfl
    · exact val_flat .non (by decide +kernel)
    · exact val_flat (.bl _) (by decide +kernel)
    · exact val_flat (.bl _) (by decide +kernel)
    · exact val_flat (.int _) (by decide +kernel)
    · exact val_flat (.int _) (by decide +kernel)
    · exact val_flat (.int _) (by decide +kernel)
    · exact val_flat (.int _) (by decide +kernel)
    · exact val_flat (.int _) (by decide +kernel)
    · exact val_flat (.str _) (by decide +kernel)
    · exact val_flat (.str _) (by decide +kernel)
    · exact val_flat (.str _) (by decide +kernel)
    · exact PuDs.nil.tup.val (by decide +kernel)
    · exact (PuDs.cons (fl_pu (.int 0)) PuDs.nil).tup.val (by decide +kernel)
    · exact (PuDs.cons (fl_pu .non) PuDs.nil).tup.val (by decide +kernel)
    · exact val_lst (ds := []) (by simp) (nX _ (by omega)) PuDs.nil (by decide +kernel)
    · exact val_lst (ds := [.int 0]) (by rw [List.getElem?_append_right (by omega)]; simp) (nX _ (by omega)) (PuDs.cons (fl_pu (.int 0)) PuDs.nil) (by decide +kernel)
    · exact val_dct (kvs := []) (by rw [List.getElem?_append_right (by omega)]; simp) (nX _ (by omega)) PuDs.nil (by decide +kernel)
    · exact val_dct (kvs := [(Sum.inr "a", .int 1)]) (by rw [List.getElem?_append_right (by omega)]; simp) (nX _ (by omega)) (PuDs.cons (fl_pu (.int 1)) PuDs.nil) (by decide +kernel)
    · exact (PuDs.cons (PuDs.cons (fl_pu (.int 0)) (PuDs.cons (fl_pu (.int 0)) PuDs.nil)).tup PuDs.nil).tup.val (by decide +kernel)
/-- a pot -/
theorem w_pot {ns : List Int} {place : Int} (h0 : 0 ≤ place) (h1 : place < 100) (k : ∀ r S', Pot 0 r S' → Gw S S' → S.length ≤ r → P (.ref r) S') : Wp (cal (n + 1) 14 [.frz (ns.map .int), .int place] S) P := by
  refine Wp_call (F := f__law_pot) rfl rfl ?_
  show Wo (exSs G W0 (cal n) b__law_pot _ S) _ _
  have hz : 3 ≤ sizeLine := by decide
  have p1 : powOk 10 60 := ⟨by decide, by decide, by decide, by decide⟩
  have p2 : powOk (10 ^ 60) 5 := ⟨by decide, by decide, by decide, by decide⟩
  have p3 : powOk 10 18 := ⟨by decide, by decide, by decide, by decide⟩
  have main : ∀ (c : Int) (S1 : Sto), Gw S S1 → Wo (exSs G W0 (cal n) b__law_pot.tail [some (.frz (ns.map .int)), some (.int place), some (.int c), none, none] S1) (fun _ S1 => P .non S1) P := by
    intro c S1 hw
    simp [b__law_pot, p1, p2, p3]
    have e0 : 0 ≤ (if c < 0 then -c else c) := by split <;> omega
    generalize (if c < 0 then -c else c) = a at e0 ⊢
    have m0 : (0 : Int) < 1000000000000000000000000000000000000000000000000000000000000000000000000000000000000000000000000000000000000000000000000000000000000000000000000000000000000000000000000000000000000000000000000000000000000000000000000000000000000000000000000000000000000000000000000000000000000000000000000000000000000 := by decide
    have e300 : (10 : Int) ^ 300 = 1000000000000000000000000000000000000000000000000000000000000000000000000000000000000000000000000000000000000000000000000000000000000000000000000000000000000000000000000000000000000000000000000000000000000000000000000000000000000000000000000000000000000000000000000000000000000000000000000000000000000 := by decide
    rw [← e300] at m0 ⊢
    have x0 := Int.emod_nonneg a (Int.ne_of_gt m0)
    have x1 := Int.emod_lt_of_pos a m0
    generalize a % 10 ^ 300 = x at x0 x1 ⊢
    have hb : (if 1000000000000000000 ≤ a then (1 : Int) else 0) = 1 ∨ (if 1000000000000000000 ≤ a then (1 : Int) else 0) = 0 := by split <;> simp
    generalize (if 1000000000000000000 ≤ a then (1 : Int) else 0) = b at hb ⊢
    have q0 : 0 ≤ x * b ∧ x * b < 10 ^ 300 := by
      rcases hb with rfl | rfl
      · rw [Int.mul_one]; exact ⟨x0, x1⟩
      · rw [Int.mul_zero]; exact ⟨Int.le_refl _, m0⟩
    refine ⟨p2, .inr (.inl ⟨by omega, by omega⟩), .inr (.inl ⟨by omega, by omega⟩), .inl ⟨by omega, by omega⟩, .inr (.inl ⟨by omega, by omega⟩), hz, ?_⟩
    refine k _ _ ⟨x * b, (c % 2305843009213693951 * 68917 + 7103 * place * place + 1153) % 2305843009213693921, 0, by simp, q0.1, q0.2, Int.emod_nonneg _ (by decide), Int.lt_trans (Int.emod_lt_of_pos _ (by decide)) (by decide), Int.le_refl _, Int.le_refl _⟩ (hw.trans (Gw.more _ _)) hw.1
  show Wo (exSs G W0 (cal n) (_ :: b__law_pot.tail) _ S) _ _
  rw [Ws_cons, Ws_asg]
  simp [f__law_pot]
  by_cases hl : place < ns.length
  · rw [if_pos hl]
    obtain ⟨x, e, hx⟩ := atI_some (xs := ns.map D.int) (v := place) h0 (by rw [List.length_map]; exact hl)
    obtain ⟨c, _, rfl⟩ := List.mem_map.mp hx
    rw [e]
    exact main c S (Gw.refl S)
  · rw [if_neg hl]
    have ec : cutD (ns.map D.int) none (some 1) = (ns.take (min 1 ns.length)).map D.int := by
      unfold cutD
      rw [List.length_map]
      show ((ns.map D.int).drop 0).take (min (1 : Int).toNat ns.length - 0) = _
      rw [List.drop_zero, List.map_take]
      rfl
    show Ot (some (D.ref S.length, S ++ [.lst (cutD (ns.map D.int) none (some 1))])) _
    rw [Ot_some, ec]
    show Ot ((lstAt (S ++ [.lst ((ns.take (min 1 ns.length)).map D.int)]) S.length).bind fun xs => (intsOf xs).map fun is => (D.int is.sum, _)) _
    rw [lstAt_new rfl]
    show Ot ((intsOf ((ns.take (min 1 ns.length)).map D.int)).map fun is => (D.int is.sum, S ++ [.lst ((ns.take (min 1 ns.length)).map D.int)])) _
    rw [intsOf_map]
    simp
    exact ⟨.inl ⟨by omega, by omega⟩, main _ _ (Gw.more _ _)⟩
end
end K59

end
section
set_option Elab.async false
set_option linter.all false
set_option maxRecDepth 100000
set_option maxHeartbeats 1000000
namespace K59
open PySem L2 Mi
section
variable {n : Nat} {S : Sto} {P : D → Sto → Prop} {r b : Nat} {N : Int} {X : List Nat}
theorem w_cells {ns : List Int} (h : ns.length ≤ 63) (k : ∀ m : Int, 1 ≤ m → m ≤ 3 → P (.ref S.length) (S ++ [.lst (rgD 0 m)])) : Wp (cal (n + 1) 17 [.frz (ns.map .int), .int 3] S) P := by
  refine Wp_call (F := f__law_cells) rfl rfl ?_
  show Wo (exSs G W0 (cal n) b__law_cells _ S) _ _
  simp [b__law_cells, f__law_cells]
  have e0 : 1 ≤ (if 1 < (if (ns.length : Int) < 3 then (ns.length : Int) else 3) then (if (ns.length : Int) < 3 then (ns.length : Int) else 3) else 1) := by split <;> omega
  have e1 : (if 1 < (if (ns.length : Int) < 3 then (ns.length : Int) else 3) then (if (ns.length : Int) < 3 then (ns.length : Int) else 3) else 1) ≤ 3 := by split <;> split <;> omega
  generalize (if 1 < (if (ns.length : Int) < 3 then (ns.length : Int) else 3) then (if (ns.length : Int) < 3 then (ns.length : Int) else 3) else 1) = m at e0 e1 ⊢
  show Ot (if rgOk 0 m then some (D.ref S.length, S ++ [.lst (rgD 0 m)]) else none) P
  rw [if_pos (by unfold rgOk; omega)]
  exact k m e0 e1
/-- an int of bounds -/
def inB (lo hi : Int) : D → Bool
  | .int i => decide (lo ≤ i) && decide (i ≤ hi)
  | _ => false
theorem w_is_int {d : D} {lo hi : Int} (h : Ty S d) (k : P (.bl (inB lo hi d)) S) : Wp (cal (n + 1) 18 [d, .int lo, .int hi] S) P := by
  refine Wp_call (F := f__law_is_int) rfl rfl ?_
  show Wo (exSs G W0 (cal n) b__law_is_int _ S) _ _
  simp [b__law_is_int, f__law_is_int, isi_int h, isi_bool h]
  cases d with
  | int i =>
    simp [isInt, isBl]
    by_cases hl : lo ≤ i
    · simp [hl]
      have z : inB lo hi (.int i) = decide (i ≤ hi) := by simp [inB, hl]
      rw [z] at k
      exact k
    · simp [hl]
      have z : inB lo hi (.int i) = false := by simp [inB, hl]
      rw [z] at k
      exact k
  | bl t => simp [isInt, isBl]; exact k
  | _ => simp [isInt, isBl]; exact k
theorem w_bent_str {x : Str} (h : Pot N r S) (hN : N < 2 ^ 37) (hX : r ∈ X) (hXS : ∀ x ∈ X, x < S.length) (k : ∀ x S', Pot (N + 1) r S' → Fr [r] S S' → Val 5 X S' x → P x S') : Wp (cal (n + 4) 20 [.ref r, .str x] S) P := by
  refine Wp_call (F := f__law_bent) rfl rfl ?_
  show Wo (exSs G W0 (cal (n + 3)) b__law_bent _ S) _ _
  have p1 : powOk 10 30 := ⟨by decide, by decide, by decide, by decide⟩
  have t0 : isiD S "tuple" (.str x) = some false := isi_tup trivial
  simp [b__law_bent, f__law_bent, t0, p1]
  refine w_is_int trivial ?_
  simp [inB]
  exact w_odd h (by omega) hX hXS k
theorem toStr_nice {m : Int} (h0 : -(10 ^ 9) < m) (h1 : m < 10 ^ 9) : NiceB 5 (.str (toString m)) := by
  have hl : (toString m : String) = toString m := rfl
  have key : plainS (toString m : String) = true ∧ (Str.length (toString m : String)) ≤ 12 := by
    cases m with
    | ofNat k =>
      have hk : k < 10 ^ 9 := by
        have : ((k : Nat) : Int) < 10 ^ 9 := h1
        omega
      have e : (Str.ofString (toString (Int.ofNat k))).cps.toList = (Nat.toDigits 10 k).map Char.toNat := PySem.W.KIN.signs_num k
      refine ⟨?_, ?_⟩
      · unfold plainS
        rw [e, List.all_eq_true]
        intro c hc
        have hd := digs_isD k c hc
        unfold isD at hd
        unfold plainC
        simp
        omega
      · have := PyProof.Rows.digits10_le (k := 9) (n := k) (by decide) hk
        have e2 : (Str.ofString (toString (Int.ofNat k))).length = ((Nat.toDigits 10 k).map Char.toNat).length := by rw [← e]; unfold Str.length; simp
        rw [e2, List.length_map]
        omega
    | negSucc k =>
      have hk : k + 1 < 10 ^ 9 := by omega
      have e : (Str.ofString (toString (Int.negSucc k))).cps.toList = 45 :: (Nat.toDigits 10 (k + 1)).map Char.toNat := sh_neg k
      refine ⟨?_, ?_⟩
      · unfold plainS
        rw [e, List.all_cons, Bool.and_eq_true]
        refine ⟨by decide, ?_⟩
        rw [List.all_eq_true]
        intro c hc
        have hd := digs_isD (k + 1) c hc
        unfold isD at hd
        unfold plainC
        simp
        omega
      · have := PyProof.Rows.digits10_le (k := 9) (n := k + 1) (by decide) hk
        have e2 : (Str.ofString (toString (Int.negSucc k))).length = (45 :: (Nat.toDigits 10 (k + 1)).map Char.toNat).length := by rw [← e]; unfold Str.length; simp
        rw [e2, List.length_cons, List.length_map]
        omega
  refine ⟨?_, by rw [PyData.depth]; omega⟩
  rw [wt, if_pos key.1]
  have := key.2
  omega
theorem int_nice {m : Int} (h0 : -(10 ^ 9) < m) (h1 : m < 10 ^ 9) : NiceB 5 (.int m) := by
  refine ⟨?_, by rw [PyData.depth]; omega⟩
  rw [wt, if_pos (by omega)]
  omega
theorem w_bent_int {m : Int} (h : Pot N r S) (hN : N < 2 ^ 36) (hX : r ∈ X) (hXS : ∀ x ∈ X, x < S.length) (h0 : -(10 ^ 8) < m) (h1 : m < 10 ^ 8) (k : ∀ x S', Pot (N + 2) r S' → Fr [r] S S' → Val 5 X S' x → P x S') : Wp (cal (n + 4) 20 [.ref r, .int m] S) P := by
  refine Wp_call (F := f__law_bent) rfl rfl ?_
  show Wo (exSs G W0 (cal (n + 3)) b__law_bent _ S) _ _
  have p1 : powOk 10 30 := ⟨by decide, by decide, by decide, by decide⟩
  have t0 : isiD S "tuple" (.int m) = some false := isi_tup trivial
  have hz : 6 ≤ sizeLine := by decide
  simp [b__law_bent, f__law_bent, t0, p1]
  refine w_is_int trivial ?_
  have hb : inB (-1000000000000000000000000000000) 1000000000000000000000000000000 (.int m) = true := by
    unfold inB
    rw [Bool.and_eq_true, decide_eq_true_eq, decide_eq_true_eq]
    omega
  have hs : biD S .str [.int m] = some (.str (toString m), S) := by
    show (if m.natAbs.log2 < 1920 then _ else none) = _
    rw [if_pos]
    by_cases z : m.natAbs = 0
    · rw [z]; decide
    · have : m.natAbs.log2 < 30 := (Nat.log2_lt z).mpr (by omega)
      omega
  simp [hb, hs]
  refine w_odd h (by omega) hX hXS fun x S1 hp1 f1 hv => ?_
  refine ⟨hz, ?_⟩
  refine w_of (hp1.grow _) (by omega) (lk0 _ [] _) hX (fun z => by have := hXS _ z; have := f1.1; omega) (by simp) (by simp) (b := 5) ?_ fun y S2 a b c => k y S2 (a.mono rfl (by omega)) ((f1.trans (Fr.grow _ _ _)).trans b) c
  intro y hy
  simp only [List.mem_cons, List.not_mem_nil, or_false] at hy
  rcases hy with rfl | rfl | rfl | rfl | rfl | rfl
  · exact val_flat (.int _) (int_nice (by omega) (by omega))
  · exact val_flat (.int _) (int_nice (by omega) (by omega))
  · exact val_flat (.int _) (int_nice (by omega) (by omega))
  · exact val_flat (.str _) (toStr_nice (by omega) (by omega))
  · exact val_flat (.bl _) ⟨by rw [wt]; omega, by rw [PyData.depth]; omega⟩
  · exact hv.mono (Fr.grow _ _ _)
theorem slc_tup {xs : List D} {lo hi : Option Int} : slcD S (.tup xs) lo hi = some (.tup (cutD xs lo hi), S) := rfl
theorem add_tup {xs ys : List D} (h : xs.length + ys.length ≤ 100) : opD S .add (.tup xs) (.tup ys) = some (.tup (xs ++ ys), S) := by
  have hz : 100 ≤ sizeLine := by decide
  show (if xs.length + ys.length ≤ sizeLine then some (D.tup (xs ++ ys), S) else none) = _
  rw [if_pos (by omega)]
theorem wt_tup2 {p : PyData} {q : PyData} (hp : wt p < 5000) (hq : wt q < 100) (dp : p.depth ≤ 5) (dq : q.depth ≤ 5) : Nice (.tuple [p, q]) ∧ Nice (.tuple [q, p]) := by
  have e1 : wt (.tuple [p, q]) < 10 ^ 6 := by simp only [wt, wts]; omega
  have e2 : wt (.tuple [q, p]) < 10 ^ 6 := by simp only [wt, wts]; omega
  have e3 : PyData.depth (.tuple [p, q]) ≤ 40 := by simp only [PyData.depth, PyData.depthAll]; omega
  have e4 : PyData.depth (.tuple [q, p]) ≤ 40 := by simp only [PyData.depth, PyData.depthAll]; omega
  exact ⟨⟨e1, e3⟩, ⟨e2, e4⟩⟩
/-- a value, as repr shows it -/
def Good9 (X : List Nat) (S : Sto) (d : D) : Prop := ∃ p, Py X S d p ∧ Nice p
theorem Val.good {b : Nat} {d : D} (h : Val b X S d) (hb : b ≤ 40) : Good9 X S d := let ⟨p, h1, h2⟩ := h; ⟨p, h1, h2.nice hb⟩
theorem Good9.mono {S' : Sto} {d : D} (f : Fr X S S') (h : Good9 X S d) : Good9 X S' d := let ⟨p, h1, h2⟩ := h; ⟨p, h1.mono f, h2⟩
theorem w_bent {x : Str} {m : Int} (hx : x = "tick" ∨ x = "never") (h : Pot N r S) (hN : N < 2 ^ 35) (hX : r ∈ X) (hXS : ∀ x ∈ X, x < S.length) (h0 : -(10 ^ 8) < m) (h1 : m < 10 ^ 8) (k : ∀ d S', Pot (N + 4) r S' → Fr [r] S S' → Good9 X S' d → P d S') : Wp (cal (n + 5) 20 [.ref r, .tup [.str x, .int m]] S) P := by
  refine Wp_call (F := f__law_bent) rfl rfl ?_
  show Wo (exSs G W0 (cal (n + 4)) b__law_bent _ S) _ _
  have hz : 8 ≤ sizeLine := by decide
  have z1 : 1 ≤ sizeLine := by omega
  have z0 : 0 ≤ sizeLine := by omega
  have t0 : ∀ S, isiD S "tuple" (.tup [.str x, .int m]) = some true := fun S => isi_tup trivial
  have ne0 : cmpD S .ne (.tup [.str x, .int m]) (.tup []) = some true := by
    show (eqD S (.tup [.str x, .int m]) (.tup [])).map (fun b => !b) = _
    have e1 : toPy S (.tup [.str x, .int m]) = some (.tuple [.str x, .int m]) := by rw [py_tup, pys_cons, pys_cons, pys_nil, py_str, py_int]; rfl
    have e2 : toPy S (.tup []) = some (.tuple []) := by rw [py_tup, pys_nil]; rfl
    have so : PyData.canLay0 (.str x) = true := by rcases hx with rfl | rfl <;> decide +kernel
    have s1 : SeqAt.shaped (.tuple [.str x, .int m]) = true := by
      unfold SeqAt.shaped
      simp only [PyData.canLay0, PyData.canLayAll0, PyData.depth, PyData.depthAll] at so ⊢
      rw [so]
      rfl
    rw [eqD_of e1 e2 (by rw [s1]; rfl) (.inl rfl)]
    rfl
  have wx : wt (.str x) < 100 ∧ PyData.depth (.str x) ≤ 1 := by
    rcases hx with rfl | rfl <;> exact ⟨by decide +kernel, by decide +kernel⟩
  have wm : wt (.int m) < 100 ∧ PyData.depth (.int m) ≤ 1 := ⟨by rw [wt, if_pos (by omega)]; omega, by rw [PyData.depth]; omega⟩
  have c0 : cutD [D.str x, D.int m] none (some 0) = [] := rfl
  have c1 : cutD [D.str x, D.int m] (some 1) none = [.int m] := rfl
  have c2 : cutD [D.str x, D.int m] none (some 1) = [.str x] := rfl
  have c3 : cutD [D.str x, D.int m] (some 2) none = [] := rfl
  have c4 : cutD [D.str x, D.int m] none (some (-1)) = [.str x] := rfl
  have l1 : ∀ (S : Sto) (xs : List D), biD S .lst [.tup xs] = some (.ref S.length, S ++ [.lst xs]) := fun _ _ => rfl
  have l2 : ∀ (S : Sto) (j : Nat) (lo hi : Option Int), slcD S (.ref j) lo hi = (lstAt S j).map fun xs => (.ref S.length, S ++ [.lst (cutD xs lo hi)]) := fun _ _ _ _ => rfl
  have l3 : ∀ (S : Sto) (xs : List D), revD S (.tup xs) = some (.tup xs.reverse, S) := fun _ _ => rfl
  have ad : ∀ (S : Sto) (xs ys : List D), xs.length + ys.length ≤ 100 → opD S .add (.tup xs) (.tup ys) = some (.tup (xs ++ ys), S) := fun S xs ys h => add_tup h
  simp [b__law_bent, f__law_bent, t0, ne0, z0]
  refine w_take h (by omega) (by omega) (by omega) fun v S1 v0 v1 hp1 f1 => ?_
  have hXS1 : ∀ x ∈ X, x < S1.length := fun x hx => Nat.lt_of_lt_of_le (hXS x hx) f1.1
  by_cases hv : v = 0
  · subst hv
    simp [t0, l1, l2, l3, slc_tup, z1, c2, c4, ad]
    refine w_odd (hp1.grow _) (by omega) hX (fun x hx => by have := hXS1 x hx; simp; omega) fun d S2 hp2 f2 hv2 => ?_
    have hr := hp1.lt
    have e1 : S2[S1.length]? = some (.lst [.str x, .int m]) := f2.at_ (by simp) (fun z => by simp at z; omega)
    have e2 : S2[S1.length + 1]? = some (.lst [.str x]) := f2.at_ (by rw [List.getElem?_append_right (by omega)]; simp) (fun z => by simp at z; omega)
    have hl := f2.1
    simp at hl
    have pm : PuD (.int m) (.int m) := fl_pu (.int m)
    have w0 : wt (.int 0) < 100 := by decide +kernel
    have px : PuD (.str x) (.str x) := fl_pu (.str x)
    refine ⟨hz, w_of (hp2.grow _) (by omega) (lk0 _ [] _) hX (fun z => by have := hXS1 _ z; omega) (by simp) (by simp) (b := 5) ?_ fun y S3 a b c => k y S3 (a.mono rfl (by omega)) (f1.trans ((Fr.grow _ _ _).trans (f2.trans ((Fr.grow _ _ _).trans b)))) (c.good (by omega))⟩
    intro y hy
    simp only [List.mem_cons, List.not_mem_nil, or_false] at hy
    rcases hy with rfl | rfl | rfl | rfl | rfl | rfl | rfl | rfl
    · exact val_lst ((List.getElem?_append_left (by omega)).trans e1) (fun z => by have := hXS1 _ z; omega) (.cons px (.cons pm .nil)) ⟨by simp only [wt, wts] at *; omega, by simp only [PyData.depth, PyData.depthAll] at *; omega⟩
    · exact (PuDs.cons px .nil).tup.val ⟨by simp only [wt, wts] at *; omega, by simp only [PyData.depth, PyData.depthAll] at *; omega⟩
    · exact (PuDs.cons px (.cons pm (.cons px .nil))).tup.val ⟨by simp only [wt, wts] at *; omega, by simp only [PyData.depth, PyData.depthAll] at *; omega⟩
    · exact (PuDs.cons px (.cons pm (.cons (fl_pu (.int 0)) .nil))).tup.val ⟨by simp only [wt, wts] at *; omega, by simp only [PyData.depth, PyData.depthAll] at *; omega⟩
    · exact (PuDs.cons pm (.cons px .nil)).tup.val ⟨by simp only [wt, wts] at *; omega, by simp only [PyData.depth, PyData.depthAll] at *; omega⟩
    · exact (PuDs.cons (PuDs.cons px (.cons pm .nil)).tup .nil).tup.val ⟨by simp only [wt, wts] at *; omega, by simp only [PyData.depth, PyData.depthAll] at *; omega⟩
    · exact val_lst ((List.getElem?_append_left (by omega)).trans e2) (fun z => by have := hXS1 _ z; omega) (.cons px .nil) ⟨by simp only [wt, wts] at *; omega, by simp only [PyData.depth, PyData.depthAll] at *; omega⟩
    · exact hv2.mono (Fr.grow _ _ _)
  · simp [hv]
    refine w_take hp1 (by omega) (by omega) (by omega) fun a S2 a0 a1 hp2 f2 => ?_
    have hXS2 : ∀ x ∈ X, x < S2.length := fun x hx => Nat.lt_of_lt_of_le (hXS1 x hx) f2.1
    have ha : a = 0 ∨ a = 1 := by omega
    rcases ha with rfl | rfl
    · simp [slc_tup, atI, ixN]
      refine w_bent_str hp2 (by omega) hX hXS2 fun d S3 hp3 f3 hv3 => ?_
      obtain ⟨p, q1, q2, q3⟩ := hv3
      simp [slc_tup, z1, c0, c1, c2, c3, ad]
      refine k _ _ (hp3.mono rfl (by omega)) ((f1.trans f2).trans f3) ⟨_, ?_, (wt_tup2 (by omega) wm.1 q3 (Nat.le_trans wm.2 (by omega))).1⟩
      unfold Py at q1 ⊢
      show toPy _ (.tup [d, .int m]) = _
      rw [py_tup, pys_cons, pys_cons, pys_nil, q1, py_int]
      rfl
    · simp [slc_tup, atI, ixN]
      refine w_bent_int hp2 (by omega) hX hXS2 h0 h1 fun d S3 hp3 f3 hv3 => ?_
      obtain ⟨p, q1, q2, q3⟩ := hv3
      simp [slc_tup, z1, c0, c1, c2, c3, ad]
      refine k _ _ (hp3.mono rfl (by omega)) ((f1.trans f2).trans f3) ⟨_, ?_, (wt_tup2 (by omega) wx.1 q3 (Nat.le_trans wx.2 (by omega))).2⟩
      unfold Py at q1 ⊢
      show toPy _ (.tup [.str x, d]) = _
      rw [py_tup, pys_cons, pys_cons, pys_nil, q1, py_str]
      rfl
end
end K59

end
section
set_option Elab.async false
set_option linter.all false
set_option maxRecDepth 100000
set_option maxHeartbeats 1000000
namespace K59
open PySem L2 Mi
/-! ### numbers -/
theorem bez (a b : Nat) : ∃ x y : Int, (a : Int) * x + b * y = (Nat.gcd a b : Nat) := by
  induction a, b using Nat.gcd.induction with
  | H0 n => exact ⟨0, 1, by simp⟩
  | H1 m n hm ih =>
    obtain ⟨x, y, h⟩ := ih
    refine ⟨y - (n / m : Nat) * x, x, ?_⟩
    rw [Nat.gcd_rec m n, ← h]
    have e : ((n % m : Nat) : Int) = (n : Int) - (m : Int) * ((n / m : Nat) : Int) := by
      have := Nat.div_add_mod n m
      have h2 : ((m * (n / m) + n % m : Nat) : Int) = (n : Int) := by rw [this]
      rw [Int.natCast_add, Int.natCast_mul] at h2
      omega
    rw [e, Int.mul_sub, Int.sub_mul, Int.mul_assoc]
    omega
variable {one other first second : Nat}
theorem tick_mem {t : Nat} : t ∈ ticks one other first second ↔ ∃ k, k < other ∧ first + k * one = t ∧ t % other = second := by
  unfold ticks
  rw [List.mem_filter, List.mem_map]
  constructor
  · rintro ⟨⟨k, hk, rfl⟩, h⟩
    exact ⟨k, List.mem_range.mp hk, rfl, by simpa using h⟩
  · rintro ⟨k, hk, rfl, h⟩
    exact ⟨⟨k, List.mem_range.mpr hk, rfl⟩, by simpa using h⟩
/-- a tick tells the same of every common divisor -/
theorem tick_div {t n : Nat} (h : t ∈ ticks one other first second) (h1 : n ∣ one) (h2 : n ∣ other) : first % n = second % n := by
  obtain ⟨k, _, rfl, e⟩ := tick_mem.mp h
  have a : (first + k * one) % other % n = (first + k * one) % n := Nat.mod_mod_of_dvd _ h2
  rw [e] at a
  rw [a, Nat.add_mod, Nat.mod_eq_zero_of_dvd (Nat.dvd_trans h1 (Nat.dvd_mul_left one k)), Nat.add_zero, Nat.mod_mod]
/-- where the greatest one tells nothing, there is a tick -/
theorem tick_ex (ho : 0 < other) (hs : second < other) (h : first % Nat.gcd one other = second % Nat.gcd one other) : ticks one other first second ≠ [] := by
  obtain ⟨x, y, e⟩ := bez one other
  have hd : ((Nat.gcd one other : Nat) : Int) ∣ (second : Int) - (first : Int) := by
    refine Int.dvd_of_emod_eq_zero ?_
    have h3 : ((second : Int)) % ((Nat.gcd one other : Nat) : Int) = (first : Int) % ((Nat.gcd one other : Nat) : Int) := by
      rw [← Int.natCast_emod, ← Int.natCast_emod, h]
    exact Int.emod_eq_emod_iff_emod_sub_eq_zero.mp h3
  obtain ⟨c, hc⟩ := hd
  have h0 : 0 ≤ (x * c) % (other : Int) := Int.emod_nonneg _ (by omega)
  have h1 : (x * c) % (other : Int) < other := Int.emod_lt_of_pos _ (by omega)
  obtain ⟨k, hk⟩ := Int.eq_ofNat_of_zero_le h0
  intro z
  have hm : first + k * one ∈ ticks one other first second := by
    refine tick_mem.mpr ⟨k, by omega, rfl, ?_⟩
    have e1 : x * c = (other : Int) * ((x * c) / other) + k := by rw [← hk]; exact (Int.mul_ediv_add_emod _ _).symm
    have e2 : ((first + k * one : Nat) : Int) - second = (other : Int) * (-(y * c) - ((x * c) / other) * one) := by
      have e3 : (one : Int) * (x * c) + other * (y * c) = second - first := by
        rw [hc, ← e, Int.add_mul, Int.mul_assoc, Int.mul_assoc]
      rw [Int.natCast_add, Int.natCast_mul]
      have e4 : (k : Int) * one = (x * c) * one - (other : Int) * ((x * c) / other) * one := by
        have : (k : Int) = x * c - (other : Int) * ((x * c) / other) := by omega
        rw [this, Int.sub_mul]
      rw [e4, Int.mul_sub, Int.mul_neg, Int.mul_assoc (other : Int), Int.mul_comm (x * c) one]
      omega
    have e5 : ((first + k * one : Nat) : Int) % other = (second : Int) % other := by
      refine Int.emod_eq_emod_iff_emod_sub_eq_zero.mpr ?_
      rw [e2]
      exact Int.mul_emod_right _ _
    have e6 : (((first + k * one) % other : Nat) : Int) = ((second % other : Nat) : Int) := by rw [Int.natCast_emod, Int.natCast_emod]; exact e5
    rw [Nat.mod_eq_of_lt hs] at e6
    exact Int.ofNat.inj e6
  rw [z] at hm
  simp at hm
/-! ### rounds -/
theorem lcm_eq (one other : Nat) (h : 0 < one) : Nat.lcm one other = one * (Nat.lcm one other / one) := (Nat.mul_div_cancel' (Nat.dvd_lcm_left one other)).symm
theorem q_le (h : 0 < one) (ho : 0 < other) : Nat.lcm one other / one ≤ other := by
  have h1 : Nat.lcm one other ≤ one * other := Nat.le_of_dvd (Nat.mul_pos h ho) (Nat.lcm_dvd (Nat.dvd_mul_right _ _) (Nat.dvd_mul_left _ _))
  exact Nat.div_le_of_le_mul h1
theorem q_pos (h : 0 < one) (ho : 0 < other) : 0 < Nat.lcm one other / one := by
  have h1 : 0 < Nat.lcm one other := Nat.lcm_pos h ho
  rw [lcm_eq one other h] at h1
  exact Nat.pos_of_mul_pos_left h1 |> fun z => by
    rcases Nat.eq_zero_or_pos (Nat.lcm one other / one) with e | e
    · rw [e] at h1; simp at h1
    · exact e
theorem met_mem {m : Nat} {v : Int} : v ∈ met one other first m ↔ ∃ k, k < m ∧ v = (((first + k * one) % other : Nat) : Int) := by
  unfold met
  rw [ssetI_mem, List.mem_map]
  constructor
  · rintro ⟨k, hk, rfl⟩
    exact ⟨k, List.mem_range.mp hk, rfl⟩
  · rintro ⟨k, hk, rfl⟩
    exact ⟨k, List.mem_range.mpr hk, rfl⟩
theorem same_tooth (h : 0 < one) (k : Nat) : (first + (k % (Nat.lcm one other / one)) * one) % other = (first + k * one) % other := by
  generalize hq : Nat.lcm one other / one = q
  have hL : Nat.lcm one other = one * q := by rw [← hq]; exact lcm_eq one other h
  have hd : other ∣ one * q := hL ▸ Nat.dvd_lcm_right one other
  have e : k * one = (k % q) * one + (one * q) * (k / q) := by
    have := Nat.div_add_mod k q
    calc k * one = (q * (k / q) + k % q) * one := by rw [this]
      _ = (k % q) * one + (one * q) * (k / q) := by rw [Nat.add_mul, Nat.add_comm, Nat.mul_comm (q * (k / q)) one, ← Nat.mul_assoc]
  rw [e, ← Nat.add_assoc, Nat.add_mod (first + k % q * one), Nat.mod_eq_zero_of_dvd (Nat.dvd_trans hd (Nat.dvd_mul_right _ _)), Nat.add_zero, Nat.mod_mod]
theorem met_same (h : 0 < one) (ho : 0 < other) : met one other first (Nat.lcm one other / one) = met one other first other := by
  refine asc_same (ssetI_asc _) (ssetI_asc _) fun v => ?_
  rw [met_mem, met_mem]
  constructor
  · rintro ⟨k, hk, e⟩
    exact ⟨k, Nat.lt_of_lt_of_le hk (q_le h ho), e⟩
  · rintro ⟨k, hk, e⟩
    exact ⟨k % (Nat.lcm one other / one), Nat.mod_lt _ (q_pos h ho), by rw [same_tooth h]; exact e⟩
theorem met_tick : ((second : Nat) : Int) ∈ met one other first other ↔ ticks one other first second ≠ [] := by
  rw [met_mem]
  constructor
  · rintro ⟨k, hk, e⟩ z
    have hm : first + k * one ∈ ticks one other first second := tick_mem.mpr ⟨k, hk, rfl, (Int.ofNat.inj e).symm⟩
    rw [z] at hm
    simp at hm
  · intro z
    cases q : ticks one other first second with
    | nil => exact absurd q z
    | cons t l =>
      obtain ⟨k, hk, e1, e2⟩ := tick_mem.mp (show t ∈ ticks one other first second by rw [q]; exact List.mem_cons_self)
      exact ⟨k, hk, by rw [e1, e2]⟩
theorem insU_len {x : Int} : ∀ {l : List Int}, x ∉ l → (insU x l).length = l.length + 1
  | [], _ => rfl
  | y :: ys, h => by
    unfold insU
    by_cases h1 : x < y
    · rw [if_pos h1]; rfl
    · rw [if_neg h1, if_neg (fun e => h (by rw [e]; exact List.mem_cons_self)), List.length_cons, insU_len (fun z => h (List.mem_cons_of_mem _ z)), List.length_cons]
theorem ssetI_len : ∀ {l : List Int}, l.Nodup → (ssetI l).length = l.length
  | [], _ => rfl
  | x :: l, h => by
    obtain ⟨h1, h2⟩ := List.nodup_cons.mp h
    show (insU x (ssetI l)).length = _
    rw [insU_len (fun z => h1 ((ssetI_mem x l).mp z)), ssetI_len h2, List.length_cons]
theorem met_len (h : 0 < one) (ho : 0 < other) : (met one other first (Nat.lcm one other / one)).length = Nat.lcm one other / one := by
  have hL := lcm_eq one other h
  generalize hq : Nat.lcm one other / one = q at hL ⊢
  unfold met
  rw [ssetI_len, List.length_map, List.length_range]
  have inj : ∀ i j, i < j → j < q → (first + i * one) % other ≠ (first + j * one) % other := by
    intro i j hij hj e
    have hd : other ∣ (j - i) * one := by
      have h3 : (first + j * one) = (first + i * one) + (j - i) * one := by
        have : j * one = i * one + (j - i) * one := by rw [← Nat.add_mul]; congr 1; omega
        omega
      have h4 := Nat.sub_mod_eq_zero_of_mod_eq e.symm
      rw [h3, Nat.add_sub_cancel_left] at h4
      exact Nat.dvd_of_mod_eq_zero h4
    have h5 : Nat.lcm one other ∣ (j - i) * one := Nat.lcm_dvd (Nat.dvd_mul_left _ _) hd
    rw [hL, Nat.mul_comm (j - i)] at h5
    have h6 : q ∣ j - i := Nat.dvd_of_mul_dvd_mul_left h h5
    have h7 := Nat.le_of_dvd (by omega) h6
    omega
  rw [List.Nodup, List.pairwise_map]
  refine List.Pairwise.imp_of_mem ?_ (List.pairwise_lt_range (n := q))
  intro i j hi hj hij e
  exact inj i j hij (List.mem_range.mp hj) (Int.ofNat.inj e)
end K59

end
section
set_option Elab.async false
set_option linter.all false
set_option maxRecDepth 100000
set_option maxHeartbeats 1000000
namespace K59
open PySem L2 Mi
theorem in_ints (x : Int) (ys : List Int) : inD (.int x) (ys.map D.int) = some (decide (x ∈ ys)) := by
  unfold inD
  have e : (flat (.int x) && (ys.map D.int).all flat) = true := by simp [flat]
  rw [if_pos e]
  congr 1
  unfold inV
  rw [List.any_map, List.any_map, Bool.eq_iff_iff, List.any_eq_true, decide_eq_true_eq]
  constructor
  · rintro ⟨y, hy, e⟩
    have e : (y == x) = true := e
    rw [← eq_of_beq e]
    exact hy
  · intro h
    exact ⟨x, h, (beq_self_eq_true x : (x == x) = true)⟩
theorem isIn_ref {S : Sto} {j : Nat} {x : Int} {ys : List Int} (h : lstAt S j = some (ys.map D.int)) : cmpD S .isIn (.int x) (.ref j) = some (decide (x ∈ ys)) := by
  show (lstAt S j).bind (inD (.int x)) = _
  rw [h]
  exact in_ints x ys
theorem wts_ints (B : Nat) : ∀ is : List Int, (∀ i ∈ is, i.natAbs < 10 ^ 60) → wts (is.map PyData.int) = is.length * 64
  | [], _ => rfl
  | i :: is, h => by
    rw [List.map_cons, wts, wts_ints B is fun j hj => h j (List.mem_cons_of_mem _ hj), wt, if_pos (h i List.mem_cons_self), List.length_cons]
    omega
theorem depth_ints : ∀ is : List Int, PyData.depthAll (is.map PyData.int) ≤ 1
  | [] => Nat.zero_le _
  | i :: is => by
    show max (PyData.depth (.int i)) (PyData.depthAll (is.map PyData.int)) ≤ 1
    exact Nat.max_le.mpr ⟨by rw [PyData.depth]; omega, depth_ints is⟩
theorem nice_ints {is : List Int} (h : is.length ≤ 1000) (hb : ∀ i ∈ is, i.natAbs < 10 ^ 60) : Nice (.tuple (is.map PyData.int)) := by
  refine ⟨?_, ?_⟩
  · rw [wt, wts_ints 0 is hb]
    omega
  · rw [PyData.depth]
    have := depth_ints is
    omega
theorem py_tup_ints (S : Sto) (is : List Int) : toPy S (.tup (is.map D.int)) = some (.tuple (is.map PyData.int)) := by
  rw [py_tup]
  unfold toPys
  rw [ints_any]
  rfl
theorem rng_q {one other first : Nat} (h1 : 2 ≤ one) (h2 : one ≤ 200) (h3 : 2 ≤ other) (h4 : other ≤ 200) (ha : first < one) : rngN first ((Nat.lcm one other : Nat) : Int) one = some (Nat.lcm one other / one) := by
  have hL := lcm_eq one other (by omega)
  have hq := q_le (one := one) (other := other) (by omega) (by omega)
  have hq0 := q_pos (one := one) (other := other) (by omega) (by omega)
  generalize Nat.lcm one other / one = q at hL hq hq0 ⊢
  rw [hL]
  have hp : one * q ≤ 200 * 200 := Nat.mul_le_mul h2 (by omega)
  unfold rngN
  rw [if_pos (by omega)]
  congr 1
  have e : (((one * q : Nat) : Int) - (first : Int) + (one : Int) - 1) / (one : Int) = (q : Int) := by
    have e1 : (((one * q : Nat) : Int) - (first : Int) + (one : Int) - 1) = ((one - 1 - first : Nat) : Int) + (one : Int) * (q : Int) := by
      rw [← Int.natCast_mul]; omega
    rw [e1, Int.add_mul_ediv_left _ _ (by omega)]
    have : (((one - 1 - first : Nat) : Int)) / (one : Int) = 0 := Int.ediv_eq_zero_of_lt (by omega) (by omega)
    omega
  rw [e]
  rfl
section
variable {n : Nat} {S : Sto} {P : D → Sto → Prop} {Pn : Mi.Loc → Sto → Prop} {r lt : Nat} {one other first second : Nat} {x1 x7 x8 x9 x10 x11 x12 x13 x14 x15 x16 : Option D}
theorem stE (h1 : 2 ≤ one) (h2 : one ≤ 200) (h3 : 2 ≤ other) (h4 : other ≤ 200) (a2 : first < one) (b2 : second < other) (hl : lstAt S lt = some ((ticks one other first second).map nD)) (k : ∀ S', Gw S S' → P (.bl true) S') :
    Wo (exSs G W0 (cal (n + 5)) (b__law_right.drop 11) [some (.ref r), x1, some (.int one), some (.int other), some (.int first), some (.int second), some (.ref lt), x7, x8, x9, x10, x11, x12, x13, x14, x15, x16] S) Pn P := by
  have hL := lcm_eq one other (by omega)
  have hq := q_le (one := one) (other := other) (by omega) (by omega)
  have hq0 := q_pos (one := one) (other := other) (by omega) (by omega)
  have hLb : Nat.lcm one other ≤ 40000 := by
    rw [hL]
    exact Nat.mul_le_mul h2 (Nat.le_trans hq h4)
  have hL1 : 1 ≤ Nat.lcm one other := Nat.lcm_pos (by omega) (by omega)
  show Wo (exSs G W0 (cal (n + 5)) (_ :: _ :: _ :: _ :: [_]) _ S) _ _
  rw [Ws_cons, Ws_asg]
  simp only [ev_lit, Wp_ok, setT_one, Oo_some, List.set]
  rw [Ws_cons, Ws_whl]
  refine W_whl (fun j ρ S' => S' = S ∧ ∃ t : Nat, ρ = [some (.ref r), x1, some (.int one), some (.int other), some (.int first), some (.int second), some (.ref lt), x7, x8, x9, x10, x11, x12, x13, x14, some (.int t), x16] ∧ 1 ≤ t ∧ t ≤ Nat.lcm one other ∧ j = Nat.lcm one other - t) ?_ W0 (Nat.lcm one other - 1) _ S (by have := W0_ge; omega) ⟨rfl, 1, rfl, Nat.le_refl _, hL1, rfl⟩
  rintro j ρ S' ⟨rfl, t, rfl, t1, t2, rfl⟩
  have o1 : (0 : Int) < one := by omega
  have o2 : (0 : Int) < other := by omega
  have more : t ≠ Nat.lcm one other → 0 < Nat.lcm one other - t ∧ ∃ j, j < Nat.lcm one other - t ∧ S' = S' ∧ ∃ t' : Nat, (t : Int) + 1 = (t' : Int) ∧ 1 ≤ t' ∧ t' ≤ Nat.lcm one other ∧ j = Nat.lcm one other - t' := fun hne =>
    ⟨by omega, Nat.lcm one other - (t + 1), by omega, rfl, t + 1, by omega, by omega, by omega, rfl⟩
  simp only [Ws_cons, Ws_nil, Ws_asg, Ws_expr, Ws_ret, Ws_ite, ev_var, ev_lit, ev_tup, ev_lst, ev_op, ev_cmp, ev_or, ev_and, Wp_bnd, Wp_ok, Wp_tst, Wp_lift2, Wp_map, Wp_if, Oo_some, Oo_map, Ot_some, Ot_map, Ot_if, IsB_bl, evs_cons, evs_nil, eva_one, eva_more, evo_one, evo_more, ev_bi, bv_repr, ev_call, ov_mod, ov_mul, ov_add, ne_ints, eq_ints, ne_strs', eq_strs', eq_bls, setT_one, List.getElem?_cons_zero, List.getElem?_cons_succ, List.set_cons_succ, List.set_cons_zero, List.length_cons, List.length_nil, Nat.reduceAdd, Bool.not_eq_true', decide_eq_false_iff_not, decide_eq_true_eq, ite_not, Bool.false_eq_true, if_false, if_true, o1, o2, true_and]
  have m1 : ((t : Int) % one = 0) ↔ t % one = 0 := by rw [← Int.natCast_emod]; exact Int.natCast_eq_zero
  have m2 : ((t : Int) % other = 0) ↔ t % other = 0 := by rw [← Int.natCast_emod]; exact Int.natCast_eq_zero
  by_cases c1 : t % one = 0
  · rw [if_pos (m1.mpr c1)]
    by_cases c2 : t % other = 0
    · rw [if_pos (m2.mpr c2)]
      have hd : Nat.lcm one other ∣ t := Nat.lcm_dvd (Nat.dvd_of_mod_eq_zero c1) (Nat.dvd_of_mod_eq_zero c2)
      have et : t = Nat.lcm one other := Nat.le_antisymm t2 (Nat.le_of_dvd (by omega) hd)
      subst et
      refine w_again h1 h2 h3 h4 ?_
      refine w_pairs_met h1 h2 h3 h4 ?_
      refine w_is_hunting h1 h2 h3 h4 ?_
      have z3 : 3 ≤ sizeLine := by decide
      have hm : mulOk one other := .inl ⟨by omega, by omega⟩
      have eb : decide (((Nat.lcm one other : Nat) : Int) = (one : Int) * (other : Int)) = decide (Nat.lcm one other = one * other) := by
        rw [Bool.eq_iff_iff, decide_eq_true_eq, decide_eq_true_eq, ← Int.natCast_mul]
        exact Int.ofNat_inj
      have hn : ∀ S : Sto, ∃ z, reprD S (.tup [nD (Nat.lcm one other), nD (Nat.lcm one other), .bl (decide (Nat.lcm one other = one * other))]) = some z := fun S => by
        refine ⟨_, repr_nice (p := .tuple [.int (Nat.lcm one other : Nat), .int (Nat.lcm one other : Nat), .bool (decide (Nat.lcm one other = one * other))]) ?_ ⟨?_, ?_⟩⟩
        · rw [py_tup, pys_cons, pys_cons, pys_cons, pys_nil, py_bl]
          unfold nD
          rw [py_int]
          rfl
        · simp only [wt, wts]
          rw [if_pos (by omega)]
          omega
        · simp only [PyData.depth, PyData.depthAll]
          omega
      obtain ⟨z, ez⟩ := hn S'
      rw [eb]
      refine ⟨z3, ?_⟩
      rw [ez, Oo_some]
      refine ⟨hm, z3, ?_⟩
      show Oo (reprD S' (.tup [nD (Nat.lcm one other), nD (Nat.lcm one other), .bl (decide (Nat.lcm one other = one * other))])) _
      rw [ez, Oo_some, if_pos rfl]
      rw [Wp_lc]
      have hi : itD S' .rng3 [.int (first : Int), .int ((Nat.lcm one other : Nat) : Int), .int one] = some (((List.range (Nat.lcm one other / one)).map fun k => first + k * one).map nD, none) := by
        rw [it_rng3, rng_q h1 h2 h3 h4 a2, Option.map_some, items_n]
      simp only [evs_cons, evs_nil, Wp_bnd, Wp_ok, ev_var, hi, Oo_some, List.getElem?_cons_zero, List.getElem?_cons_succ]
      refine W_plain (fun _ => true) (fun d => match d with | .int t => .int (t % other) | d => d) rfl (fun x hx => ?_) (fun x hx _ => ?_) ?_
      · simp
      · obtain ⟨t, _, rfl⟩ := List.mem_map.mp hx
        simp [nD, wipeD]
        omega
      have e : ((((List.range (Nat.lcm one other / one)).map fun k => first + k * one).map nD).filter fun _ => true).map (fun d => match d with | .int t => D.int (t % other) | d => d) = ((List.range (Nat.lcm one other / one)).map fun k => (((first + k * one) % other : Nat) : Int)).map D.int := by
        rw [List.filter_eq_self.mpr (fun _ _ => rfl), List.map_map, List.map_map, List.map_map]
        refine List.map_congr_left fun i _ => ?_
        show D.int (((first + i * one : Nat) : Int) % (other : Int)) = D.int (((first + i * one) % other : Nat) : Int)
        rfl
      rw [e]
      have z200 : 200 ≤ sizeLine := by decide
      refine ⟨by rw [List.length_map, List.length_map, List.length_range]; omega, ?_⟩
      rw [bv_sset (lk0 _ [] _) (by rw [List.length_map, List.length_range]; omega), Ot_some]
      have em : ssetI ((List.range (Nat.lcm one other / one)).map fun k => (((first + k * one) % other : Nat) : Int)) = met one other first other := met_same (first := first) (by omega) (by omega)
      rw [em]
      generalize hS1 : S' ++ [SO.lst (((List.range (Nat.lcm one other / one)).map fun k => (((first + k * one) % other : Nat) : Int)).map D.int)] = S1
      have g1 : Gw S' S1 := by rw [← hS1]; exact Gw.more _ _
      refine w_mates h1 h2 h3 h4 a2 fun S2 g2 => ?_
      have hlm : lstAt S2 S1.length = some ((met one other first other).map D.int) := by
        refine lstAt_of (g2.at_ ?_)
        simp
      have hb : ∀ i ∈ met one other first other, i.natAbs < 10 ^ 60 := fun i hi => by
        obtain ⟨k, _, rfl⟩ := met_mem.mp hi
        have := Nat.mod_lt (first + k * one) (show other > 0 by omega)
        have e9 : (200 : Nat) < 10 ^ 60 := by decide
        omega
      have hlen : (met one other first other).length = Nat.lcm one other / one := by rw [← met_same (by omega) (by omega)]; exact met_len (by omega) (by omega)
      have er : ∀ S : Sto, reprD S (.tup ((met one other first other).map D.int)) = some (PyData.shown (.tuple ((met one other first other).map PyData.int))) := fun S => repr_nice (py_tup_ints S _) (nice_ints (by omega) hb)
      rw [er, Oo_some, bv_tuple hlm, Ot_some, er, Oo_some, if_pos rfl]
      rw [isIn_ref hlm, Oo_some]
      refine ⟨Nat.zero_le _, ?_⟩
      have hlt2 : lstAt S2 lt = some ((ticks one other first second).map nD) := by
        have q1 : S'[lt]? = some (.lst ((ticks one other first second).map nD)) := by
          unfold lstAt at hl
          split at hl
          · rename_i ys q; cases hl; exact q
          · cases hl
        exact lstAt_of ((g1.trans ((Gw.more _ _).trans g2)).at_ q1)
      have q2 : lt < S2.length := by
        by_cases z : lt < S2.length
        · exact z
        · unfold lstAt at hlt2
          rw [List.getElem?_eq_none (by omega)] at hlt2
          cases hlt2
      have q3 : S1.length < S2.length := by have := g2.1; simp at this; omega
      rw [(eq_lists (S := S2 ++ [SO.lst ([] : List D)]) (a := lt) (b := S2.length) (is := (ticks one other first second).map fun (t : Nat) => (t : Int)) (js := []) (by rw [lstAt_app q2, hlt2, nD_map]) (by show lstAt (S2 ++ [SO.lst ([] : List D)]) S2.length = some []; exact lstAt_new rfl)).2, Oo_some]
      have ee : (decide (((second : Nat) : Int) ∈ met one other first other)) = (!decide ((ticks one other first second).map (fun (t : Nat) => (t : Int)) = [])) := by
        rw [Bool.eq_iff_iff, decide_eq_true_eq, met_tick]
        simp
      rw [ee, if_pos (beq_self_eq_true _)]
      have lm : biD (S2 ++ [SO.lst []]) .len [.ref S1.length] = some (.int ((met one other first other).length : Nat), S2 ++ [SO.lst []]) := by
        show (lstAt (S2 ++ [SO.lst []]) S1.length).map _ = _
        rw [lstAt_app q3, hlm, Option.map_some, List.length_map]
      rw [lm, Ot_some, ov_mul, Ot_if, Ot_some, eq_ints, Oo_some, hlen]
      refine ⟨.inl ⟨by omega, by omega⟩, ?_⟩
      have ef : decide ((((Nat.lcm one other / one : Nat) : Int) * (one : Int)) = ((Nat.lcm one other : Nat) : Int)) = true := by
        rw [decide_eq_true_eq, ← Int.natCast_mul, Nat.mul_comm, ← hL]
      rw [ef]
      exact k _ (((g1.trans (Gw.more _ _)).trans g2).trans (Gw.more _ _))
    · rw [if_neg (fun e => c2 (m2.mp e))]
      have hne : t ≠ Nat.lcm one other := fun z => c2 (by rw [z]; exact Nat.mod_eq_zero_of_dvd (Nat.dvd_lcm_right one other))
      exact ⟨by omega, Nat.lcm one other - (t + 1), by omega, t + 1, rfl, by omega, by omega, rfl⟩
  · rw [if_neg (fun e => c1 (m1.mp e))]
    have hne : t ≠ Nat.lcm one other := fun z => c1 (by rw [z]; exact Nat.mod_eq_zero_of_dvd (Nat.dvd_lcm_left one other))
    exact ⟨by omega, Nat.lcm one other - (t + 1), by omega, t + 1, rfl, by omega, by omega, rfl⟩
end
end K59

end
section
set_option Elab.async false
set_option linter.all false
set_option maxRecDepth 100000
set_option maxHeartbeats 1000000
namespace K59
open PySem L2 Mi
theorem lst_get {S : Sto} {j : Nat} {xs : List D} (h : lstAt S j = some xs) : S[j]? = some (.lst xs) := by
  unfold lstAt at h
  split at h
  · rename_i ys q; cases h; exact q
  · cases h
theorem lst_gw {S S' : Sto} {j : Nat} {xs : List D} (g : Gw S S') (h : lstAt S j = some xs) : lstAt S' j = some xs := lstAt_of (g.at_ (lst_get h))
theorem isIn_strs {S : Sto} {j : Nat} {x : Str} {ys : List Str} (h : lstAt S j = some (ys.map D.str)) : cmpD S .isIn (.str x) (.ref j) = some (decide (x ∈ ys)) ∧ cmpD S .notIn (.str x) (.ref j) = some (!decide (x ∈ ys)) := by
  have e : ((seqAt S (.ref j)).bind (inD (.str x))) = some (decide (x ∈ ys)) := by
    show (lstAt S j).bind (inD (.str x)) = _
    rw [h]
    exact in_strs x ys
  refine ⟨e, ?_⟩
  show ((seqAt S (.ref j)).bind (inD (.str x))).map (fun b => !b) = _
  rw [e]
  rfl
theorem all_true {S : Sto} {j : Nat} {ds : List D} (h : lstAt S j = some ds) (ht : ∀ d ∈ ds, d = .bl true) : biD S .all [.ref j] = some (.bl true, S) := by
  have key : ∀ l : List D, (∀ d ∈ l, d = .bl true) → ∃ bs, blsOf l = some bs ∧ bs.all id = true := by
    intro l
    induction l with
    | nil => intro _; exact ⟨[], rfl, rfl⟩
    | cons x l ih =>
      intro hl
      obtain ⟨bs, h1, h2⟩ := ih fun d hd => hl d (List.mem_cons_of_mem _ hd)
      have e := hl x List.mem_cons_self
      subst e
      refine ⟨true :: bs, ?_, by simp [h2]⟩
      show (blsOf l).map (fun bs => true :: bs) = _
      rw [h1]
      rfl
  obtain ⟨bs, h1, h2⟩ := key ds ht
  show (lstAt S j).bind (fun xs => (blsOf xs).map fun bs => (D.bl (bs.all id), S)) = _
  rw [h]
  show (blsOf ds).map _ = _
  rw [h1, Option.map_some, h2]
theorem repr_bl (S : Sto) (b : Bool) : reprD S (.bl b) = some (PyData.shown (.bool b)) := repr_nice (py_bl S b) (by cases b <;> decide +kernel)
section
variable {n : Nat} {S : Sto} {P : D → Sto → Prop} {Pn : Mi.Loc → Sto → Prop} {r lt lp lv : Nat} {one other first second : Nat} {x1 x7 x8 x9 x11 x13 x14 x15 x16 : Option D}
theorem stD (h1 : 2 ≤ one) (h2 : one ≤ 200) (h3 : 2 ≤ other) (h4 : other ≤ 200) (a2 : first < one) (b2 : second < other) (hl : lstAt S lt = some ((ticks one other first second).map nD)) {vs : List D} {ps : List Str} (hv : lstAt S lv = some vs) (hvl : vs.length ≤ 1000) (hp : lstAt S lp = some (ps.map .str))
    (hg : ∀ v ∈ vs, ∃ p, toPy S v = some p ∧ Nice p) (hs : ∀ p, Nice p → (p.shown ∈ ps ↔ showsV one other first second p = true)) (k : ∀ S', Gw S S' → P (.bl true) S') :
    Wo (exSs G W0 (cal (n + 5)) (b__law_right.drop 10) [some (.ref r), x1, some (.int one), some (.int other), some (.int first), some (.int second), some (.ref lt), x7, x8, x9, some (.ref lp), x11, some (.ref lv), x13, x14, x15, x16] S) Pn P := by
  show Wo (exSs G W0 (cal (n + 5)) (_ :: b__law_right.drop 11) _ S) _ _
  rw [Ws_cons, Ws_ite, ]
  simp only [ev_not, ev_bi, evs_cons, evs_nil, Wp_bnd, Wp_tst, Wp_ok, Wp_lift2]
  rw [Wp_lc]
  simp only [evs_cons, evs_nil, Wp_bnd, Wp_ok, ev_var, List.getElem?_cons_zero, List.getElem?_cons_succ, it_ref, hv, Option.map_some, Oo_some]
  refine Wp_mono (W_comp (P := fun ys S' => Gw S S' ∧ (∀ d ∈ ys, d = D.bl true) ∧ ys.length ≤ 1000) (fun xs ds S' => Gw S S' ∧ (∀ d ∈ ds, d = D.bl true) ∧ (∀ x ∈ xs, x ∈ vs) ∧ ds.length + xs.length ≤ 1000) (fun x xs ds S' hJ => ?_) vs [] S ⟨Gw.refl S, (fun d hd => nomatch hd), fun x hx => hx, by simpa using hvl⟩ (fun ys S' hJ => ⟨hJ.1, hJ.2.1, by have := hJ.2.2.2; simp at this; omega⟩)) fun ys S' hh => ?_
  · obtain ⟨g, hd, hx, hlen⟩ := hJ
    obtain ⟨p, hpy, hn⟩ := hg x (hx x List.mem_cons_self)
    have hpy := toPy_grow g hpy
    simp only [evt_nil, wipeD, setT_one, Option.bind_some, Wp_ok, if_true, List.set_cons_succ, List.set_cons_zero, ev_cmp, ev_bi, evs_cons, evs_nil, ev_call, ev_var, Wp_bnd, Wp_lift2, List.getElem?_cons_zero, List.getElem?_cons_succ]
    refine w_shows h1 h2 h3 h4 a2 b2 hpy fun S2 g2 => ?_
    have e1 : showsD one other first second x = showsV one other first second p := shows_py hpy
    have hpy2 := toPy_grow g2 hpy
    simp only [bv_repr, Ot_map, Wp_map, repr_bl, repr_nice hpy2 hn, Oo_some, (isIn_strs (lst_gw (g.trans g2) hp)).1, eq_strs', e1]
    refine ⟨?_, g.trans g2, ?_, fun y hy => hx y (List.mem_cons_of_mem _ hy), ?_⟩
    · exact still_refl (lst_gw (g.trans g2) hv)
    · intro d hd'
      rcases List.mem_append.mp hd' with z | z
      · exact hd d z
      · have e2 : decide (p.shown ∈ ps) = showsV one other first second p := by
          rw [Bool.eq_iff_iff, decide_eq_true_eq]
          exact hs p hn
        have z := List.mem_singleton.mp z
        rw [z, e2, decide_eq_true rfl]
    · simp at hlen ⊢
      omega
  · rw [List.nil_append] at hh
    obtain ⟨g, hd, hlen⟩ := hh
    have z : 1000 ≤ sizeLine := by decide
    refine ⟨by omega, ?_⟩
    rw [all_true (lk0 _ [] _) hd, Ot_some, IsB_bl, IsB_bl]
    simp only [Bool.not_true, Bool.false_eq_true, if_false, Ws_nil]
    exact stE h1 h2 h3 h4 a2 b2 (lst_gw (g.trans (Gw.more _ _)) hl) fun S2 g2 => k S2 ((g.trans (Gw.more _ _)).trans g2)
end
end K59

end
section
set_option Elab.async false
set_option linter.all false
set_option maxRecDepth 100000
set_option maxHeartbeats 1000000
namespace K59
open PySem L2 Mi
theorem add_refs {S : Sto} {a b : Nat} {xs ys : List D} (ha : lstAt S a = some xs) (hb : lstAt S b = some ys) (h : xs.length + ys.length ≤ 10000) : opD S .add (.ref a) (.ref b) = some (D.ref S.length, S ++ [SO.lst (xs ++ ys)]) := by
  have hz : 10000 ≤ sizeLine := by decide
  show (match S[a]?, S[b]? with
    | some (SO.lst xs), some (SO.lst ys) => if xs.length + ys.length ≤ sizeLine then some (D.ref S.length, S ++ [SO.lst (xs ++ ys)]) else none
    | _, _ => none) = _
  rw [lst_get ha, lst_get hb]
  dsimp only
  rw [if_pos (by omega)]
theorem ext_refs {S : Sto} {a b : Nat} {xs ys : List D} (ha : lstAt S a = some xs) (hb : lstAt S b = some ys) (h : xs.length + ys.length ≤ 10000) : extD S (.ref a) (.ref b) = some (R.ok D.non (S.set a (SO.lst (xs ++ ys)))) := by
  have hz : 10000 ≤ sizeLine := by decide
  show (match lstAt S a, lstAt S b with
    | some xs, some ys => if xs.length + ys.length ≤ sizeLine then some (R.ok D.non (S.set a (.lst (xs ++ ys)))) else none
    | _, _ => none) = _
  rw [ha, hb]
  dsimp only
  rw [if_pos (by omega)]
theorem isL_ref {S : Sto} {a : Nat} {xs : List D} (ha : lstAt S a = some xs) : isL S (.ref a) = true := by
  show (lstAt S a).isSome = true
  rw [ha]
  rfl
theorem lst_lt {S : Sto} {j : Nat} {xs : List D} (h : lstAt S j = some xs) : j < S.length := (List.getElem?_eq_some_iff.mp (lst_get h)).1
theorem nice_pair {x : Str} (hx : wt (.str x) < 100) {i : Int} (hi : i.natAbs < 10 ^ 60) : Nice (.tuple [.str x, .int i]) := by
  refine ⟨?_, ?_⟩
  · simp only [wt, wts] at hx ⊢
    rw [if_pos hi]
    omega
  · simp only [PyData.depth, PyData.depthAll]
    omega
theorem tick_lt {one other first second t : Nat} (h2 : one ≤ 200) (h4 : other ≤ 200) (a2 : first < one) (h : t ∈ ticks one other first second) : t < 50000 := by
  obtain ⟨k, hk, rfl, _⟩ := tick_mem.mp h
  have := Nat.mul_le_mul (Nat.le_of_lt hk) h2
  have : k * one ≤ 200 * 200 := Nat.mul_le_mul (by omega) h2
  omega
theorem pu_pair (x : Str) (i : Int) : PuD (.tup [.str x, .int i]) (.tuple [.str x, .int i]) := (PuDs.cons (fl_pu (.str x)) (.cons (fl_pu (.int i)) .nil)).tup
theorem good_pu {X : List Nat} {S : Sto} {d : D} {p : PyData} (h : PuD d p) (hn : Nice p) : Good9 X S d := ⟨p, h _, hn⟩
section
variable {n : Nat} {S : Sto} {P : D → Sto → Prop} {Pn : Mi.Loc → Sto → Prop} {r lt lp lv : Nat} {N : Int} {one other first second : Nat} {x1 x7 x8 x9 x13 x14 x15 x16 : Option D}
theorem stC2 (h1 : 2 ≤ one) (h2 : one ≤ 200) (h3 : 2 ≤ other) (h4 : other ≤ 200) (a2 : first < one) (b2 : second < other) (hl : lstAt S lt = some ((ticks one other first second).map nD)) {vs : List D} {ps : List Str} (hv : lstAt S lv = some vs) (hvl : vs.length ≤ 100) (hp : lstAt S lp = some (ps.map .str))
    {x : Str} {m : Nat} (hx : x = "tick" ∨ x = "never") (hm : m < 10 ^ 7) (hpot : Pot N r S) (hN : N < 2 ^ 30) (n1 : lt ∉ [r, lv]) (n2 : lp ∉ [r, lv]) (n3 : lv ≠ r)
    (hg : ∀ v ∈ vs, Good9 [r, lv] S v) (hs : ∀ p, Nice p → (p.shown ∈ ps ↔ showsV one other first second p = true)) (k : ∀ S', Pot (N + 16) r S' → Fr [r, lv] S S' → P (.bl true) S') :
    Wo (exSs G W0 (cal (n + 5)) (b__law_right.drop 9) [some (.ref r), x1, some (.int one), some (.int other), some (.int first), some (.int second), some (.ref lt), x7, x8, x9, some (.ref lp), some (.tup [.str x, nD m]), some (.ref lv), x13, x14, x15, x16] S) Pn P := by
  show Wo (exSs G W0 (cal (n + 5)) (_ :: b__law_right.drop 10) _ S) _ _
  have z2 : 2 ≤ sizeLine := by decide
  have hXS : ∀ j ∈ [r, lv], j < S.length := fun j hj => by
    simp at hj
    rcases hj with rfl | rfl
    · exact hpot.lt
    · exact lst_lt hv
  rw [Ws_cons, Ws_expr]
  simp only [ev_ext, Wp_bnd, Wp_ok, ev_var, List.getElem?_cons_zero, List.getElem?_cons_succ, isL_ref hv, if_true, ev_op, ev_lst, ev_tup, ev_lit, evs_cons, evs_nil, Wp_if, List.length_cons, List.length_nil, true_and]
  refine ⟨z2, z2, z2, ?_⟩
  generalize hT : [D.tup [D.str "never", D.bl true], D.tup [D.str "tick", D.bl false]] = T2
  rw [Wp_lc]
  simp only [evs_cons, evs_nil, Wp_bnd, Wp_ok, ev_lit]
  rw [it_rng1, if_pos (by decide), Oo_some]
  generalize hS1 : S ++ [SO.lst T2] = S1
  have f1 : Fr [r] S S1 := by rw [← hS1]; exact Fr.grow _ _ _
  have p1 : Pot N r S1 := by rw [← hS1]; exact hpot.grow _
  have t1 : lstAt S1 S.length = some T2 := by rw [← hS1]; exact lstAt_new rfl
  refine Wp_mono (W_comp (P := fun ys S' => Fr [r] S1 S' ∧ Pot (N + 16) r S' ∧ (∀ d ∈ ys, Good9 [r, lv] S' d) ∧ ys.length = 4) (fun xs ds S' => Fr [r] S1 S' ∧ Pot (N + 4 * ds.length) r S' ∧ (∀ d ∈ ds, Good9 [r, lv] S' d) ∧ ds.length + xs.length = 4) (fun y xs ds S' hJ => ?_) (rgD 0 4) [] S1 ⟨Fr.refl _ _, by simpa using p1, (fun d hd => nomatch hd), by rfl⟩ (fun ys S' hJ => ⟨hJ.1, hJ.2.1.mono rfl (by have := hJ.2.2.2; simp at this; omega), hJ.2.2.1, by have := hJ.2.2.2; simp at this; omega⟩)) fun ys S' hh => ?_
  · obtain ⟨f, hp2, hd, hlen⟩ := hJ
    simp at hlen
    simp only [evt_nil, wipeD, setT_one, Option.bind_some, Wp_ok, if_true, List.set_cons_succ, List.set_cons_zero, evs_cons, evs_nil, ev_call, ev_var, Wp_bnd, List.getElem?_cons_zero, List.getElem?_cons_succ]
    refine w_bent (X := [r, lv]) hx hp2 (by omega) List.mem_cons_self (fun j hj => Nat.lt_of_lt_of_le (hXS j hj) (Nat.le_trans f1.1 f.1)) (by omega) (by omega) fun d S2 q1 q2 q3 => ?_
    refine ⟨rfl, f.trans q2, q1.mono rfl (by simp; omega), fun e he => ?_, by simp; omega⟩
    rcases List.mem_append.mp he with z | z
    · exact (hd e z).mono (q2.sub (one_sub List.mem_cons_self))
    · rw [List.mem_singleton.mp z]; exact q3
  · rw [List.nil_append] at hh
    obtain ⟨f, hp2, hd, hlen⟩ := hh
    have z4 : 10000 ≤ sizeLine := by decide
    refine ⟨by omega, ?_⟩
    have sl : S.length ∉ [r, lv] := fun z => by have := hXS _ z; omega
    have t2 : lstAt S' S.length = some T2 := lstAt_fr f t1 (fun z => sl (one_sub List.mem_cons_self _ z))
    have hT2 : T2.length = 2 := by rw [← hT]; rfl
    have l2 := lst_lt t2
    simp only [Wp_lift2]
    rw [add_refs (xs := T2) (ys := ys) (by rw [lstAt_app l2]; exact t2) (lstAt_new rfl) (by omega), Ot_some]
    have v2 : lstAt S' lv = some vs := by
      exact lstAt_fr (f1.trans f) hv (by simpa using n3)
    have g2 : Gw S' (S' ++ [SO.lst ys] ++ [SO.lst (T2 ++ ys)]) := (Gw.more _ _).trans (Gw.more _ _)
    have c4 : lstAt (S' ++ [SO.lst ys] ++ [SO.lst (T2 ++ ys)]) (S' ++ [SO.lst ys]).length = some (T2 ++ ys) := lstAt_new rfl
    have v4 := lst_gw g2 v2
    generalize S' ++ [SO.lst ys] ++ [SO.lst (T2 ++ ys)] = S4 at g2 c4 v4 ⊢
    rw [ext_refs v4 c4 (by rw [List.length_append]; omega), Wp_ok]
    have fp : Fr [r, lv] S4 (S4.set lv (.lst (vs ++ (T2 ++ ys)))) := Fr.put (by simp) _ _
    have fs : Fr [r, lv] S' (S4.set lv (.lst (vs ++ (T2 ++ ys)))) := (g2.fr _).trans fp
    have fa : Fr [r, lv] S (S4.set lv (.lst (vs ++ (T2 ++ ys)))) := ((f1.trans f).sub (one_sub List.mem_cons_self)).trans fs
    have hpr : Pot (N + 16) r (S4.set lv (.lst (vs ++ (T2 ++ ys)))) := hp2.mono (by rw [List.getElem?_set_ne n3]; exact g2.2 r hp2.lt) (by omega)
    refine stD h1 h2 h3 h4 a2 b2 (lstAt_fr fa hl n1) (lstAt_set (lst_lt v4)) (by rw [List.length_append, List.length_append]; omega) (lstAt_fr fa hp n2) (fun v hv' => ?_) hs fun S6 g => k S6 (hpr.mono (g.2 r hpr.lt) (by omega)) (fa.trans (g.fr _))
    have hg9 : Good9 [r, lv] (S4.set lv (.lst (vs ++ (T2 ++ ys)))) v := by
      rcases List.mem_append.mp hv' with z | z
      · exact (hg v z).mono fa
      · rcases List.mem_append.mp z with z | z
        · rw [← hT] at z
          simp only [List.mem_cons, List.not_mem_nil, or_false] at z
          rcases z with rfl | rfl
          · exact good_pu (PuDs.cons (fl_pu (.str _)) (.cons (fl_pu (.bl _)) .nil)).tup (by decide +kernel)
          · exact good_pu (PuDs.cons (fl_pu (.str _)) (.cons (fl_pu (.bl _)) .nil)).tup (by decide +kernel)
        · exact (hd v z).mono fs
    obtain ⟨p, q1, q2⟩ := hg9
    exact ⟨p, q1.now, q2⟩
/-- the first more -/
theorem stC1 (h1 : 2 ≤ one) (h2 : one ≤ 200) (h3 : 2 ≤ other) (h4 : other ≤ 200) (a2 : first < one) (b2 : second < other) (hl : lstAt S lt = some ((ticks one other first second).map nD)) {vs : List D} {ps : List Str} (hv : lstAt S lv = some vs) (hvl : vs.length ≤ 20) (hp : lstAt S lp = some (ps.map .str))
    {x : Str} {m : Nat} (hx : x = "tick" ∨ x = "never") (hm : m < 10 ^ 7) (hpot : Pot N r S) (hN : N < 2 ^ 30) (n1 : lt ∉ [r, lv]) (n2 : lp ∉ [r, lv]) (n3 : lv ≠ r)
    (hg : ∀ v ∈ vs, Good9 [r, lv] S v) (hs : ∀ p, Nice p → (p.shown ∈ ps ↔ showsV one other first second p = true)) (k : ∀ S', Pot (N + 16) r S' → Fr [r, lv] S S' → P (.bl true) S') :
    Wo (exSs G W0 (cal (n + 5)) (b__law_right.drop 8) [some (.ref r), x1, some (.int one), some (.int other), some (.int first), some (.int second), some (.ref lt), x7, x8, x9, some (.ref lp), some (.tup [.str x, nD m]), some (.ref lv), x13, x14, x15, x16] S) Pn P := by
  show Wo (exSs G W0 (cal (n + 5)) (_ :: b__law_right.drop 9) _ S) _ _
  have z2 : 2 ≤ sizeLine := by decide
  rw [Ws_cons, Ws_expr]
  simp only [ev_ext, Wp_bnd, Wp_ok, ev_var, List.getElem?_cons_zero, List.getElem?_cons_succ, isL_ref hv, if_true, ev_op, Wp_if, true_and]
  rw [Wp_lc]
  have hs5 : slcD S (.ref lt) none (some 5) = some (.ref S.length, S ++ [.lst (cutD ((ticks one other first second).map nD) none (some 5))]) := by
    show (lstAt S lt).map _ = _
    rw [hl]
    rfl
  have hcut : cutD ((ticks one other first second).map nD) none (some 5) = ((ticks one other first second).take (min 5 (ticks one other first second).length)).map nD := by
    unfold cutD
    rw [List.length_map]
    show (((ticks one other first second).map nD).drop 0).take (min (5 : Int).toNat (ticks one other first second).length - 0) = _
    rw [List.drop_zero, List.map_take]
    rfl
  simp only [evs_cons, evs_nil, Wp_bnd, Wp_ok, ev_slc, ev_var, ev_lit, evp_none, evp_some, IsI_int, Wp_lift2, List.getElem?_cons_zero, List.getElem?_cons_succ, hs5, Ot_some, it_ref, lstAt_new, Option.map_some, Oo_some, hcut]
  generalize hL : (ticks one other first second).take (min 5 (ticks one other first second).length) = L
  have hLt : ∀ t ∈ L, t < 50000 := fun t ht => tick_lt h2 h4 a2 (by rw [← hL] at ht; exact List.mem_of_mem_take ht)
  have hLl : L.length ≤ 5 := by rw [← hL, List.length_take]; omega
  refine W_plain (fun _ => true) (fun d => .tup [.str "tick", d]) (still_refl (lstAt_new rfl)) (fun y hy => ?_) (fun y hy _ => ?_) ?_
  · simp only [setT_one, Option.bind_some, evt_nil, Wp_ok, and_self]
  · simp only [setT_one, Option.bind_some, ev_tup, evs_cons, evs_nil, ev_lit, ev_var, wipeD, List.set_cons_succ, List.set_cons_zero, List.getElem?_cons_zero, List.getElem?_cons_succ, Wp_bnd, Wp_ok, Wp_if, List.length_cons, List.length_nil]
    exact ⟨z2, by trivial, by trivial⟩
  rw [List.filter_eq_self.mpr (fun _ _ => rfl)]
  have z100 : 100 ≤ sizeLine := by decide
  refine ⟨by rw [List.length_map, List.length_map]; omega, ?_⟩
  generalize hA : (L.map nD).map (fun d => D.tup [D.str "tick", d]) = A
  have hAl : A.length ≤ 5 := by rw [← hA, List.length_map, List.length_map]; exact hLl
  have hAg : ∀ {X : List Nat} {S : Sto}, ∀ v ∈ A, Good9 X S v := fun {X S} v hv => by
    rw [← hA] at hv
    obtain ⟨d, hd, rfl⟩ := List.mem_map.mp hv
    obtain ⟨t, ht, rfl⟩ := List.mem_map.mp hd
    have := hLt t ht
    have e9 : (50000 : Nat) < 10 ^ 60 := by decide
    exact good_pu (pu_pair _ _) (nice_pair (by decide +kernel) (by omega))
  generalize hS1 : S ++ [SO.lst (L.map nD)] = S1
  have g1 : Gw S S1 := by rw [← hS1]; exact Gw.more _ _
  rw [Wp_lc]
  simp only [evs_cons, evs_nil, Wp_bnd, Wp_ok, ev_lit]
  rw [it_rng2, if_pos (by decide), Oo_some]
  refine W_plain (fun _ => true) (fun d => .tup [.str "never", d]) rfl (fun y hy => ?_) (fun y hy _ => ?_) ?_
  · simp only [setT_one, Option.bind_some, evt_nil, Wp_ok, and_self]
  · simp only [setT_one, Option.bind_some, ev_tup, evs_cons, evs_nil, ev_lit, ev_var, wipeD, List.set_cons_succ, List.set_cons_zero, List.getElem?_cons_zero, List.getElem?_cons_succ, Wp_bnd, Wp_ok, Wp_if, List.length_cons, List.length_nil]
    exact ⟨z2, by trivial, by trivial⟩
  rw [List.filter_eq_self.mpr (fun _ _ => rfl)]
  have hBl0 : (rgD 2 8).length = 6 := by rfl
  refine ⟨by rw [List.length_map, hBl0]; omega, ?_⟩
  generalize hB : (rgD 2 8).map (fun d => D.tup [D.str "never", d]) = B
  have hBl : B.length = 6 := by rw [← hB, List.length_map]; exact hBl0
  have hBg : ∀ {X : List Nat} {S : Sto}, ∀ v ∈ B, Good9 X S v := fun {X S} v hv => by
    rw [← hB] at hv
    obtain ⟨d, hd, rfl⟩ := List.mem_map.mp hv
    unfold rgD at hd
    obtain ⟨t, ht, rfl⟩ := List.mem_map.mp hd
    have := List.mem_range.mp ht
    exact good_pu (pu_pair _ _) (nice_pair (by decide +kernel) (by
      have e9 : (50000 : Nat) < 10 ^ 60 := by decide
      have : t < 6 := this
      omega))
  have c1 : lstAt (S1 ++ [SO.lst A] ++ [SO.lst B]) S1.length = some A := by rw [lstAt_app (by simp)]; exact lstAt_new rfl
  rw [add_refs c1 (lstAt_new rfl) (by omega), Ot_some]
  have g2 : Gw S (S1 ++ [SO.lst A] ++ [SO.lst B] ++ [SO.lst (A ++ B)]) := g1.trans ((Gw.more _ _).trans ((Gw.more _ _).trans (Gw.more _ _)))
  have c4 : lstAt (S1 ++ [SO.lst A] ++ [SO.lst B] ++ [SO.lst (A ++ B)]) (S1 ++ [SO.lst A] ++ [SO.lst B]).length = some (A ++ B) := lstAt_new rfl
  have v4 := lst_gw g2 hv
  generalize S1 ++ [SO.lst A] ++ [SO.lst B] ++ [SO.lst (A ++ B)] = S4 at g2 c4 v4 ⊢
  rw [ext_refs v4 c4 (by rw [List.length_append]; omega), Wp_ok]
  have fp : Fr [r, lv] S4 (S4.set lv (.lst (vs ++ (A ++ B)))) := Fr.put (by simp) _ _
  have fa : Fr [r, lv] S (S4.set lv (.lst (vs ++ (A ++ B)))) := (g2.fr _).trans fp
  refine stC2 h1 h2 h3 h4 a2 b2 (lstAt_fr fa hl n1) (lstAt_set (lst_lt v4)) (by rw [List.length_append, List.length_append]; omega) (lstAt_fr fa hp n2) hx hm (hpot.mono (by rw [List.getElem?_set_ne n3]; exact g2.2 r hpot.lt) (Int.le_refl _)) hN n1 n2 n3 (fun v hv' => ?_) hs (fun S' h f => k S' h (fa.trans f))
  rcases List.mem_append.mp hv' with z | z
  · exact (hg v z).mono fa
  · rcases List.mem_append.mp z with z | z
    · exact hAg v z
    · exact hBg v z
end
end K59

end
section
set_option Elab.async false
set_option linter.all false
set_option maxRecDepth 100000
set_option maxHeartbeats 1000000
namespace K59
open PySem L2 Mi
theorem Py.fresh {X : List Nat} {S T : Sto} {d : D} {p : PyData} (h : Py X S d p) : Py (X ++ [S.length]) (S ++ T) d p := by
  refine toPyW_mono (fun j q e => toPyR_mono (fun k o e => .inl ?_) 8 j q e) d p h
  by_cases hk : k ∈ X
  · rw [hide_in hk] at e
    rw [hide_in (List.mem_append_left _ hk)]
    cases q : S[k]? with
    | none => rw [q] at e; cases e
    | some o2 =>
      rw [q] at e
      rw [List.getElem?_append_left (List.getElem?_eq_some_iff.mp q).1, q]
      exact e
  · rw [hide_out hk] at e
    have hl := (List.getElem?_eq_some_iff.mp e).1
    rw [hide_out (fun z => (List.mem_append.mp z).elim hk fun z => by have := List.mem_singleton.mp z; omega), List.getElem?_append_left hl]
    exact e
section
variable {n : Nat} {S : Sto} {P : D → Sto → Prop} {Pn : Mi.Loc → Sto → Prop} {r lt lp : Nat} {N : Int} {one other first second : Nat} {x1 x7 x8 x9 x12 x13 x14 x15 x16 : Option D}
theorem stC0 (h1 : 2 ≤ one) (h2 : one ≤ 200) (h3 : 2 ≤ other) (h4 : other ≤ 200) (a2 : first < one) (b2 : second < other) (hl : lstAt S lt = some ((ticks one other first second).map nD)) {ps : List Str} (hp : lstAt S lp = some (ps.map .str))
    {x : Str} {m : Nat} (hx : x = "tick" ∨ x = "never") (hm : m < 10 ^ 7) (hpot : Pot N r S) (hN : N < 2 ^ 29) (n1 : lt ≠ r) (n2 : lp ≠ r)
    (hs : ∀ p, Nice p → (p.shown ∈ ps ↔ showsV one other first second p = true)) (k : ∀ S', Pot (N + 17) r S' → Fr [r] S S' → P (.bl true) S') :
    Wo (exSs G W0 (cal (n + 5)) (b__law_right.drop 7) [some (.ref r), x1, some (.int one), some (.int other), some (.int first), some (.int second), some (.ref lt), x7, x8, x9, some (.ref lp), some (.tup [.str x, nD m]), x12, x13, x14, x15, x16] S) Pn P := by
  show Wo (exSs G W0 (cal (n + 5)) (_ :: b__law_right.drop 8) _ S) _ _
  have z20 : 20 ≤ sizeLine := by decide
  have z0 : 0 ≤ sizeLine := by omega
  have z1 : 1 ≤ sizeLine := by omega
  have z2 : 2 ≤ sizeLine := by omega
  have z13 : 13 ≤ sizeLine := by omega
  have c2 : cutD [D.str x, nD m] none (some 1) = [.str x] := rfl
  have l1 : ∀ (S : Sto) (xs : List D), biD S .lst [.tup xs] = some (.ref S.length, S ++ [.lst xs]) := fun _ _ => rfl
  have l3 : ∀ (S : Sto) (xs : List D), revD S (.tup xs) = some (.tup xs.reverse, S) := fun _ _ => rfl
  have ad : ∀ (S : Sto), opD S .add (.tup [.str x, nD m]) (.tup [.int 0]) = some (.tup [.str x, nD m, .int 0], S) := fun S => add_tup (xs := [.str x, nD m]) (ys := [.int 0]) (by simp)
  rw [Ws_cons, Ws_asg]
  simp only [ev_lst, ev_tup, ev_lit, ev_bi, ev_slc, ev_rev, ev_op, ev_call, evs_cons, evs_nil, evp_none, evp_some, IsI_int, Wp_bnd, Wp_ok, ev_var, Wp_lift2, List.getElem?_cons_zero, List.getElem?_cons_succ, l1, l3, slc_tup, c2, ad, Ot_some, Wp_if, List.length_cons, List.length_nil, z0, z1, z2, true_and]
  have hS0 : ∀ j ∈ [r], j < (S ++ [SO.lst [D.str x, nD m]]).length := fun j hj => by
    rw [List.mem_singleton.mp hj]
    have := hpot.lt
    simp
    omega
  refine w_odd (X := [r]) (hpot.grow _) (by omega) List.mem_cons_self hS0 fun a S2 q1 q2 q3 => ?_
  refine ⟨z13, ?_⟩
  simp only [setT_one, Oo_some, List.set_cons_succ, List.set_cons_zero]
  have f1 : Fr [r] S S2 := (Fr.grow _ _ _).trans q2
  have hlen : S.length + 1 ≤ S2.length := by have := q2.1; simp at this; exact this
  have hr := hpot.lt
  have e1 : S2[S.length]? = some (.lst [.str x, nD m]) := q2.at_ (by simp) (fun z => by simp at z; omega)
  have wx : wt (.str x) < 100 := by rcases hx with rfl | rfl <;> decide +kernel
  have wm : wt (.int (m : Int)) < 100 := by
    have e9 : (10 : Nat) ^ 7 < 10 ^ 60 := by decide
    rw [wt, if_pos (by omega)]
    omega
  have w0 : wt (.int 0) < 100 := by decide +kernel
  have pm : PuD (nD m) (.int m) := fl_pu (.int m)
  have px : PuD (.str x) (.str x) := fl_pu (.str x)
  have i60 : ∀ i : Int, i.natAbs < 1000 → i.natAbs < 10 ^ 60 := fun i hi => by
    have e9 : (1000 : Nat) < 10 ^ 60 := by decide
    omega
  have ll := lst_lt hl
  have lp' := lst_lt hp
  refine stC1 (lv := S2.length) h1 h2 h3 h4 a2 b2 (lst_gw (Gw.more _ _) (lstAt_fr f1 hl (by simpa using n1))) (lstAt_new rfl) (by simp) (lst_gw (Gw.more _ _) (lstAt_fr f1 hp (by simpa using n2))) hx hm (q1.grow _) (by omega) (fun z => by simp at z; omega) (fun z => by simp at z; omega) (by omega) (fun v hv => ?_) hs fun S' h f => k S' (h.mono rfl (by omega)) ⟨Nat.le_trans f1.1 (Nat.le_trans (by simp) f.1), fun j hj nj => (f.2 j (by simp; omega) (fun z => by simp at nj z; omega)).trans ((List.getElem?_append_left (by omega)).trans (f1.2 j hj nj))⟩
  simp only [List.mem_cons, List.not_mem_nil, or_false] at hv
  rcases hv with rfl | rfl | rfl | rfl | rfl | rfl | rfl | rfl | rfl | rfl | rfl | rfl | rfl
  · exact good_pu (PuDs.cons px (.cons pm .nil)).tup ⟨by simp only [wt, wts] at *; omega, by simp only [PyData.depth, PyData.depthAll] at *; omega⟩
  · exact (val_lst (b := 40) ((List.getElem?_append_left (by omega)).trans e1) (fun z => by simp at z; omega) (.cons px (.cons pm .nil)) ⟨by simp only [wt, wts] at *; omega, by simp only [PyData.depth, PyData.depthAll] at *; omega⟩).good (Nat.le_refl _)
  · exact good_pu (PuDs.cons px .nil).tup ⟨by simp only [wt, wts] at *; omega, by simp only [PyData.depth, PyData.depthAll] at *; omega⟩
  · exact good_pu (PuDs.cons px (.cons pm (.cons (fl_pu (.int 0)) .nil))).tup ⟨by simp only [wt, wts] at *; omega, by simp only [PyData.depth, PyData.depthAll] at *; omega⟩
  · exact good_pu (PuDs.cons pm (.cons px .nil)).tup ⟨by simp only [wt, wts] at *; omega, by simp only [PyData.depth, PyData.depthAll] at *; omega⟩
  · exact good_pu (pu_pair _ _) (nice_pair (by decide +kernel) (i60 _ (by omega)))
  · exact good_pu (pu_pair _ _) (nice_pair (by decide +kernel) (i60 _ (by omega)))
  · exact good_pu (pu_pair _ _) (nice_pair (by decide +kernel) (i60 _ (by omega)))
  · exact good_pu (pu_pair _ _) (nice_pair (by decide +kernel) (i60 _ (by omega)))
  · exact good_pu (pu_pair _ _) (nice_pair (by decide +kernel) (i60 _ (by omega)))
  · exact good_pu (fl_pu .non) (by decide +kernel)
  · exact good_pu PuDs.nil.tup (by decide +kernel)
  · obtain ⟨p, y1, y2⟩ := q3
    exact ⟨p, Py.fresh y1, y2.nice (by omega)⟩
end
end K59

end
section
set_option Elab.async false
set_option linter.all false
set_option maxRecDepth 100000
set_option maxHeartbeats 1000000
namespace K59
open PySem L2 Mi
/-- the divisors that tell -/
def divs (one other first second : Nat) : List Nat := ((List.range (min one other - 1)).map fun k => k + 2).filter fun n => one % n == 0 && (other % n == 0 && !(first % n == second % n))
variable {one other first second : Nat}
theorem div_mem {n : Nat} (h1 : 0 < one) (h3 : 0 < other) : n ∈ divs one other first second ↔ 2 ≤ n ∧ n ∣ one ∧ n ∣ other ∧ first % n ≠ second % n := by
  unfold divs
  rw [List.mem_filter, List.mem_map]
  constructor
  · rintro ⟨⟨k, hk, rfl⟩, h⟩
    simp only [Bool.and_eq_true, beq_iff_eq, Bool.not_eq_true', beq_eq_false_iff_ne] at h
    exact ⟨by omega, Nat.dvd_of_mod_eq_zero h.1, Nat.dvd_of_mod_eq_zero h.2.1, h.2.2⟩
  · rintro ⟨a, b, c, d⟩
    have e1 := Nat.le_of_dvd h1 b
    have e2 := Nat.le_of_dvd h3 c
    refine ⟨⟨n - 2, List.mem_range.mpr (by omega), by omega⟩, ?_⟩
    simp only [Bool.and_eq_true, beq_iff_eq, Bool.not_eq_true', beq_eq_false_iff_ne]
    exact ⟨Nat.mod_eq_zero_of_dvd b, Nat.mod_eq_zero_of_dvd c, d⟩
theorem gcd_div (h1 : 0 < one) (h3 : 0 < other) (b2 : second < other) (h : ticks one other first second = []) : Nat.gcd one other ∈ divs one other first second := by
  rw [div_mem h1 h3]
  have hne : first % Nat.gcd one other ≠ second % Nat.gcd one other := fun e => tick_ex h3 b2 e h
  have g0 : 0 < Nat.gcd one other := Nat.gcd_pos_of_pos_left _ h1
  refine ⟨?_, Nat.gcd_dvd_left _ _, Nat.gcd_dvd_right _ _, hne⟩
  rcases Nat.lt_or_ge (Nat.gcd one other) 2 with z | z
  · have e : Nat.gcd one other = 1 := by omega
    rw [e, Nat.mod_one, Nat.mod_one] at hne
    exact absurd rfl hne
  · exact z
theorem div_none (h1 : 0 < one) (h3 : 0 < other) (b2 : second < other) : ticks one other first second = [] ↔ divs one other first second ≠ [] := by
  constructor
  · intro h z
    have := gcd_div h1 h3 b2 h
    rw [z] at this
    simp at this
  · intro h
    cases q : divs one other first second with
    | nil => exact absurd q h
    | cons n l =>
      have hn : n ∈ divs one other first second := by rw [q]; exact List.mem_cons_self
      obtain ⟨_, a, b, c⟩ := (div_mem h1 h3).mp hn
      cases q2 : ticks one other first second with
      | nil => rfl
      | cons t l2 => exact absurd (tick_div (t := t) (by rw [q2]; exact List.mem_cons_self) a b) c
def toldD (one other first second : Nat) : D := match ticks one other first second with
  | [] => .tup [.str "never", nD (Nat.gcd one other)]
  | t :: _ => .tup [.str "tick", nD t]
def tickP (t : Nat) : PyData := .tuple [.str "tick", .int t]
def neverP (n : Nat) : PyData := .tuple [.str "never", .int n]
/-- the papers -/
def papers (one other first second : Nat) : List Str := match ticks one other first second with
  | [] => (divs one other first second).map fun n => (neverP n).shown
  | t :: _ => [(tickP t).shown]
theorem b60 {i : Nat} (h : i < 10 ^ 7) : ((i : Int)).natAbs < 10 ^ 60 := by
  have e9 : (10 : Nat) ^ 7 < 10 ^ 60 := by decide
  omega
theorem says_never {m : Int} (h1 : 0 < one) (h3 : 0 < other) : says one other first second "never" m = true ↔ ∃ n ∈ divs one other first second, m = (n : Int) := by
  unfold says
  rw [if_neg (by decide +kernel), if_pos rfl]
  simp only [Bool.and_eq_true, decide_eq_true_eq, Bool.not_eq_true', decide_eq_false_iff_not]
  constructor
  · rintro ⟨⟨⟨a, b⟩, c⟩, d⟩
    obtain ⟨n, rfl⟩ := Int.eq_ofNat_of_zero_le (show 0 ≤ m by omega)
    refine ⟨n, (div_mem h1 h3).mpr ⟨by omega, ?_, ?_, fun e => d ?_⟩, rfl⟩
    · exact Nat.dvd_of_mod_eq_zero (by rw [← Int.natCast_emod] at b; exact Int.natCast_eq_zero.mp b)
    · exact Nat.dvd_of_mod_eq_zero (by rw [← Int.natCast_emod] at c; exact Int.natCast_eq_zero.mp c)
    · rw [← Int.natCast_emod, ← Int.natCast_emod, e]
  · rintro ⟨n, hn, rfl⟩
    obtain ⟨a, b, c, d⟩ := (div_mem h1 h3).mp hn
    refine ⟨⟨⟨by omega, ?_⟩, ?_⟩, fun e => d ?_⟩
    · rw [← Int.natCast_emod, Nat.mod_eq_zero_of_dvd b]; rfl
    · rw [← Int.natCast_emod, Nat.mod_eq_zero_of_dvd c]; rfl
    · rw [← Int.natCast_emod, ← Int.natCast_emod] at e; exact Int.ofNat_inj.mp e
theorem papers_ok (h1 : 2 ≤ one) (h2 : one ≤ 200) (h3 : 2 ≤ other) (h4 : other ≤ 200) (a2 : first < one) (b2 : second < other) (p : PyData) (hp : Nice p) : p.shown ∈ papers one other first second ↔ showsV one other first second p = true := by
  have hv : showsV one other first second p = true ↔ ∃ x m, p = .tuple [.str x, .int m] ∧ says one other first second x m = true := by
    constructor
    · intro h
      unfold showsV at h
      split at h
      · rename_i x m
        exact ⟨x, m, rfl, h⟩
      · cases h
    · rintro ⟨x, m, rfl, h⟩
      exact h
  rw [hv]
  unfold papers
  cases q : ticks one other first second with
  | nil =>
    simp only
    rw [List.mem_map]
    constructor
    · rintro ⟨n, hn, e⟩
      have hb := (div_mem (by omega) (by omega)).mp hn
      have hle := Nat.le_of_dvd (by omega) hb.2.1
      have e2 := (nice_inj (nice_pair (by decide +kernel) (b60 (by omega))) hp).mp e
      exact ⟨"never", n, e2.symm, (says_never (by omega) (by omega)).mpr ⟨n, hn, rfl⟩⟩
    · rintro ⟨x, m, rfl, h⟩
      by_cases hx : x = "tick"
      · unfold says at h
        rw [if_pos hx, q] at h
        cases h
      · by_cases hn : x = "never"
        · subst hn
          obtain ⟨n, a, rfl⟩ := (says_never (by omega) (by omega)).mp h
          exact ⟨n, a, rfl⟩
        · unfold says at h
          rw [if_neg hx, if_neg hn] at h
          cases h
  | cons t l =>
    simp only [List.mem_singleton]
    have ht : t ∈ ticks one other first second := by rw [q]; exact List.mem_cons_self
    have hlt := tick_lt h2 h4 a2 ht
    rw [nice_inj hp (show Nice (tickP t) from nice_pair (by decide +kernel) (b60 (by omega)))]
    constructor
    · intro e
      refine ⟨"tick", t, e, ?_⟩
      unfold says
      rw [if_pos rfl, q]
      exact decide_eq_true rfl
    · rintro ⟨x, m, rfl, h⟩
      by_cases hx : x = "tick"
      · subst hx
        unfold says at h
        rw [if_pos rfl, q] at h
        rw [of_decide_eq_true h]
        rfl
      · by_cases hn : x = "never"
        · subst hn
          obtain ⟨n, a, rfl⟩ := (says_never (by omega) (by omega)).mp h
          obtain ⟨_, b1, b3, b4⟩ := (div_mem (by omega) (by omega)).mp a
          exact absurd (tick_div ht b1 b3) b4
        · unfold says at h
          rw [if_neg hx, if_neg hn] at h
          cases h
section
variable {n : Nat} {S : Sto} {P : D → Sto → Prop} {Pn : Mi.Loc → Sto → Prop} {r lt ld lp : Nat} {N : Int} {x1 x7 x9 x11 x12 x13 x14 x15 x16 : Option D}
theorem stB (h1 : 2 ≤ one) (h2 : one ≤ 200) (h3 : 2 ≤ other) (h4 : other ≤ 200) (a2 : first < one) (b2 : second < other) (hl : lstAt S lt = some ((ticks one other first second).map nD)) (hd : lstAt S ld = some ((divs one other first second).map nD)) (hp : lstAt S lp = some ((papers one other first second).map .str))
    (hpot : Pot N r S) (hN : N < 2 ^ 29) (n1 : lt ≠ r) (n2 : lp ≠ r) (k : ∀ S', Pot (N + 17) r S' → Fr [r] S S' → P (.bl true) S') :
    Wo (exSs G W0 (cal (n + 5)) (b__law_right.drop 5) [some (.ref r), x1, some (.int one), some (.int other), some (.int first), some (.int second), some (.ref lt), x7, some (.ref ld), x9, some (.ref lp), x11, x12, x13, x14, x15, x16] S) Pn P := by
  show Wo (exSs G W0 (cal (n + 5)) (_ :: _ :: b__law_right.drop 7) _ S) _ _
  rw [Ws_cons, Ws_asg]
  simp only [ev_call, evs_cons, evs_nil, Wp_bnd, Wp_ok, ev_var, List.getElem?_cons_zero, List.getElem?_cons_succ]
  refine w_meeting h1 h2 h3 h4 a2 b2 fun S1 g1 => ?_
  simp only [setT_one, Oo_some, List.set_cons_succ, List.set_cons_zero]
  have ⟨x, m, hx, hm, e, hsay⟩ : ∃ (x : Str) (m : Nat), (x = "tick" ∨ x = "never") ∧ m < 10 ^ 7 ∧ toldD one other first second = .tup [.str x, nD m] ∧ says one other first second x m = true := by
    unfold toldD
    cases q : ticks one other first second with
    | nil =>
      have hg := gcd_div (by omega) (by omega) b2 q
      exact ⟨"never", Nat.gcd one other, .inr rfl, by have := Nat.gcd_le_left other (show 0 < one by omega); omega, rfl, (says_never (by omega) (by omega)).mpr ⟨_, hg, rfl⟩⟩
    | cons t l =>
      have ht : t ∈ ticks one other first second := by rw [q]; exact List.mem_cons_self
      have := tick_lt h2 h4 a2 ht
      refine ⟨"tick", t, .inl rfl, by omega, rfl, ?_⟩
      unfold says
      rw [if_pos rfl, q]
      exact decide_eq_true rfl
  change Wo (exSs G W0 (cal (n + 5)) (_ :: b__law_right.drop 7) [some (.ref r), x1, some (.int one), some (.int other), some (.int first), some (.int second), some (.ref lt), x7, some (.ref ld), x9, some (.ref lp), some (toldD one other first second), x12, x13, x14, x15, x16] S1) Pn P
  rw [e]
  have hn : Nice (.tuple [.str x, .int m]) := nice_pair (by rcases hx with rfl | rfl <;> decide +kernel) (b60 hm)
  have hrep : ∀ S, reprD S (.tup [.str x, nD m]) = some (PyData.shown (.tuple [.str x, .int m])) := fun S => repr_nice (pu_pair x m _) hn
  have hin : PyData.shown (.tuple [.str x, .int m]) ∈ papers one other first second := (papers_ok h1 h2 h3 h4 a2 b2 _ hn).mpr hsay
  rw [Ws_cons, Ws_ite]
  have z0 : 0 ≤ sizeLine := Nat.zero_le _
  simp only [evo_more, evo_one, ev_or, ev_cmp, ev_bi, ev_lst, evs_cons, evs_nil, ev_var, Wp_bnd, Wp_ok, Wp_tst, Wp_map, Wp_lift2, bv_repr, Ot_map, hrep, Oo_some, IsB_bl, List.getElem?_cons_zero, List.getElem?_cons_succ, (isIn_strs (lst_gw g1 hp)).2, decide_eq_true hin, Bool.not_true, Bool.false_eq_true, if_false, Wp_if, List.length_nil, z0, true_and]
  have l1 := lst_gw g1 hl
  have d1 := lst_gw g1 hd
  have p1 := lst_gw g1 hp
  have g2 : Gw S1 (S1 ++ [SO.lst ([] : List D)] ++ [SO.lst ([] : List D)]) := (Gw.more _ _).trans (Gw.more _ _)
  rw [(eq_lists (S := S1 ++ [SO.lst ([] : List D)]) (a := lt) (b := S1.length) (is := (ticks one other first second).map fun (t : Nat) => (t : Int)) (js := []) (by rw [lstAt_app (lst_lt l1), l1, nD_map]) (by show lstAt (S1 ++ [SO.lst ([] : List D)]) S1.length = some []; exact lstAt_new rfl)).1, Oo_some]
  rw [(eq_lists (S := S1 ++ [SO.lst ([] : List D)] ++ [SO.lst ([] : List D)]) (a := ld) (b := (S1 ++ [SO.lst ([] : List D)]).length) (is := (divs one other first second).map fun (t : Nat) => (t : Int)) (js := []) (by rw [lst_gw g2 d1, nD_map]) (by show lstAt (S1 ++ [SO.lst ([] : List D)] ++ [SO.lst ([] : List D)]) (S1 ++ [SO.lst ([] : List D)]).length = some []; exact lstAt_new rfl)).2, Oo_some, ne_bls, Oo_some]
  have eb : (decide ((ticks one other first second).map (fun (t : Nat) => (t : Int)) = []) == !decide ((divs one other first second).map (fun (t : Nat) => (t : Int)) = [])) = true := by
    have hh := div_none (one := one) (other := other) (first := first) (second := second) (by omega) (by omega) b2
    rw [beq_iff_eq, Bool.eq_iff_iff]
    simp [hh]
  rw [eb]
  simp only [Bool.not_true, Bool.false_eq_true, if_false, Ws_nil]
  have hp2 : Pot N r S1 := hpot.mono (g1.2 r hpot.lt) (Int.le_refl _)
  exact stC0 h1 h2 h3 h4 a2 b2 (lst_gw g2 l1) (lst_gw g2 p1) hx hm (hp2.mono (g2.2 r hp2.lt) (Int.le_refl _)) hN n1 n2 (papers_ok h1 h2 h3 h4 a2 b2) (fun S' h f => k S' h (((g1.trans g2).fr _).trans f))
end
end K59

end
section
set_option Elab.async false
set_option linter.all false
set_option maxRecDepth 100000
set_option maxHeartbeats 1000000
namespace K59
open PySem L2 Mi
section
variable {n : Nat} {S : Sto} {P : D → Sto → Prop} {Pn : Mi.Loc → Sto → Prop} {r : Nat} {N : Int} {x1 x7 x8 x9 x10 x11 x12 x13 x14 x15 x16 x6 : Option D}
theorem items_2 (m : Nat) (h : 2 ≤ m) : rgD 2 ((m : Int) + 1) = ((List.range (m - 1)).map fun k => k + 2).map nD := by
  unfold rgD
  have e : ((m : Int) + 1 - 2).toNat = m - 1 := by omega
  rw [e, List.map_map]
  refine List.map_congr_left fun i _ => ?_
  show D.int (2 + (i : Int)) = D.int (((i + 2 : Nat)) : Int)
  congr 1
  omega
theorem stA {one other first second : Nat} (h1 : 2 ≤ one) (h2 : one ≤ 200) (h3 : 2 ≤ other) (h4 : other ≤ 200) (a2 : first < one) (b2 : second < other) (hpot : Pot N r S) (hN : N < 2 ^ 29) (k : ∀ S', Pot (N + 17) r S' → Fr [r] S S' → P (.bl true) S') :
    Wo (exSs G W0 (cal (n + 5)) (b__law_right.drop 2) [some (.ref r), x1, some (.int one), some (.int other), some (.int first), some (.int second), x6, x7, x8, x9, x10, x11, x12, x13, x14, x15, x16] S) Pn P := by
  show Wo (exSs G W0 (cal (n + 5)) (_ :: _ :: _ :: b__law_right.drop 5) _ S) _ _
  have hm : mulOk one other := .inl ⟨by omega, by omega⟩
  have hi : itD S .rng3 [.int (first : Int), .int ((one : Int) * other), .int one] = some (((List.range other).map fun k => first + k * one).map nD, none) := by
    rw [it_rng3, rng_n h1 h2 h4 a2, Option.map_some, items_n]
  rw [Ws_cons, Ws_asg, Wp_lc]
  simp only [evs_cons, evs_nil, Wp_bnd, Wp_ok, ev_var, ev_op, ov_mul, Wp_lift2, Ot_if, Ot_some, hm, hi, Oo_some, List.getElem?_cons_zero, List.getElem?_cons_succ, true_and]
  refine W_plain (fun d => match d with | .int t => decide (t % other = second) | _ => false) id rfl (fun x hx => ?_) (fun x hx _ => ?_) ?_
  · obtain ⟨t, _, rfl⟩ := List.mem_map.mp hx
    simp [nD, wipeD]
    omega
  · simp [wipeD]
  rw [List.map_id, filter_n _ (fun t => t % other == second) (fun t => by
      show decide ((t : Int) % other = second) = (t % other == second)
      rw [Bool.eq_iff_iff, decide_eq_true_eq, beq_iff_eq]
      omega)]
  have hl := ticks_len one other first second
  have z5 : 300 ≤ sizeLine := by decide
  change ((ticks one other first second).map nD).length ≤ sizeLine ∧ Oo (setT _ (.one 6) (.ref S.length)) (fun ρ1 => Wo (exSs G W0 (cal (n + 5)) _ ρ1 (S ++ [.lst ((ticks one other first second).map nD)])) Pn P)
  refine ⟨by rw [List.length_map]; omega, ?_⟩
  simp only [setT_one, Oo_some, List.set_cons_succ, List.set_cons_zero]
  have t1 : lstAt (S ++ [.lst ((ticks one other first second).map nD)]) S.length = some ((ticks one other first second).map nD) := lstAt_new rfl
  have p1 := hpot.grow [.lst ((ticks one other first second).map nD)]
  have hr := hpot.lt
  have hS1 : (S ++ [SO.lst ((ticks one other first second).map nD)]).length = S.length + 1 := by simp
  have gw1 : Gw S (S ++ [SO.lst ((ticks one other first second).map nD)]) := Gw.more _ _
  generalize S ++ [SO.lst ((ticks one other first second).map nD)] = S1 at t1 p1 hS1 gw1 ⊢
  -- divisors
  rw [Ws_cons, Ws_asg, Wp_lc]
  have hmin : (if (other : Int) < one then (other : Int) else one) = ((min one other : Nat) : Int) := by split <;> omega
  simp only [evs_cons, evs_nil, Wp_bnd, Wp_ok, ev_var, ev_lit, ev_op, ev_bi, bv_min, ov_add, Wp_lift2, Ot_some, List.getElem?_cons_zero, List.getElem?_cons_succ, hmin]
  rw [it_rng2, if_pos (by omega), Oo_some, items_2 (min one other) (by omega)]
  refine W_plain (fun d => match d with | .int t => decide ((one : Int) % t = 0) && (decide ((other : Int) % t = 0) && !decide ((first : Int) % t = (second : Int) % t)) | _ => false) id rfl (fun x hx => ?_) (fun x hx _ => ?_) ?_
  · obtain ⟨t, ht, rfl⟩ := List.mem_map.mp hx
    obtain ⟨i, _, rfl⟩ := List.mem_map.mp ht
    have o1 : (0 : Int) < ((i + 2 : Nat) : Int) := by omega
    generalize ht2 : ((i + 2 : Nat) : Int) = t at o1
    have en : nD (i + 2) = .int t := by unfold nD; rw [ht2]
    rw [en]
    simp only [setT_one, Option.bind_some, evt_cons, evt_nil, ev_and, eva_more, eva_one, ev_cmp, ev_op, ev_var, ev_lit, wipeD, List.set_cons_succ, List.set_cons_zero, List.getElem?_cons_zero, List.getElem?_cons_succ, Wp_bnd, Wp_ok, Wp_tst, Wp_map, Wp_lift2, ov_mod, Ot_if, Ot_some, o1, true_and, eq_ints, ne_ints, Oo_some, IsB_bl, decide_eq_true_eq]
    by_cases c1 : (one : Int) % t = 0
    · by_cases c2 : (other : Int) % t = 0
      · by_cases c3 : (first : Int) % t = (second : Int) % t <;> simp [c1, c2, c3]
      · simp [c1, c2]
    · simp [c1]
  · simp [wipeD]
  rw [List.map_id, filter_n _ (fun n => one % n == 0 && (other % n == 0 && !(first % n == second % n))) (fun t => by
      show (decide ((one : Int) % (t : Int) = 0) && (decide ((other : Int) % (t : Int) = 0) && !decide ((first : Int) % (t : Int) = (second : Int) % (t : Int)))) = _
      rw [← Int.natCast_emod, ← Int.natCast_emod, ← Int.natCast_emod, ← Int.natCast_emod]
      rw [Bool.eq_iff_iff]
      simp
      omega)]
  have hdl : (divs one other first second).length ≤ 200 := by
    unfold divs
    refine Nat.le_trans (List.length_filter_le _ _) ?_
    rw [List.length_map, List.length_range]
    omega
  change ((divs one other first second).map nD).length ≤ sizeLine ∧ Oo (setT _ (.one 8) (.ref S1.length)) (fun ρ1 => Wo (exSs G W0 (cal (n + 5)) _ ρ1 (S1 ++ [.lst ((divs one other first second).map nD)])) Pn P)
  refine ⟨by rw [List.length_map]; omega, ?_⟩
  simp only [setT_one, Oo_some, List.set_cons_succ, List.set_cons_zero]
  have d2 : lstAt (S1 ++ [.lst ((divs one other first second).map nD)]) S1.length = some ((divs one other first second).map nD) := lstAt_new rfl
  have t2 : lstAt (S1 ++ [.lst ((divs one other first second).map nD)]) S.length = some ((ticks one other first second).map nD) := by rw [lstAt_app (lst_lt t1)]; exact t1
  have p2 := p1.grow [.lst ((divs one other first second).map nD)]
  have hS2 : (S1 ++ [SO.lst ((divs one other first second).map nD)]).length = S1.length + 1 := by simp
  have gw2 : Gw S1 (S1 ++ [SO.lst ((divs one other first second).map nD)]) := Gw.more _ _
  generalize S1 ++ [SO.lst ((divs one other first second).map nD)] = S2 at t2 d2 p2 hS2 gw2 ⊢
  -- papers
  have fin : ∀ S3 lp, Gw S2 S3 → lstAt S3 lp = some ((papers one other first second).map .str) → S2.length ≤ lp → Wo (exSs G W0 (cal (n + 5)) (b__law_right.drop 5) [some (.ref r), x1, some (.int one), some (.int other), some (.int first), some (.int second), some (.ref S.length), x7, some (.ref S1.length), x9, some (.ref lp), x11, x12, x13, x14, x15, x16] S3) Pn P := fun S3 lp g hp hlp =>
    stB h1 h2 h3 h4 a2 b2 (lst_gw g t2) (lst_gw g d2) hp (p2.mono (g.2 r p2.lt) (Int.le_refl _)) hN (by omega) (by omega) (fun S' h f => k S' h ((((gw1.trans gw2).trans g).fr _).trans f))
  rw [Ws_cons, Ws_asg]
  simp only [ev_ite, ev_cmp, ev_lst, evs_nil, ev_var, Wp_bnd, Wp_ok, Wp_tst, Wp_map, Wp_if, List.getElem?_cons_zero, List.getElem?_cons_succ, List.length_nil]
  refine ⟨Nat.zero_le _, ?_⟩
  rw [(eq_lists (S := S2 ++ [SO.lst ([] : List D)]) (a := S.length) (b := S2.length) (is := (ticks one other first second).map fun (t : Nat) => (t : Int)) (js := []) (by rw [lstAt_app (lst_lt t2), t2, nD_map]) (by show lstAt (S2 ++ [SO.lst ([] : List D)]) S2.length = some []; exact lstAt_new rfl)).2, Oo_some, IsB_bl]
  have t3 : lstAt (S2 ++ [SO.lst ([] : List D)]) S.length = some ((ticks one other first second).map nD) := by rw [lstAt_app (lst_lt t2)]; exact t2
  have d3 : lstAt (S2 ++ [SO.lst ([] : List D)]) S1.length = some ((divs one other first second).map nD) := by rw [lstAt_app (lst_lt d2)]; exact d2
  have g3 : Gw S2 (S2 ++ [SO.lst ([] : List D)]) := Gw.more _ _
  have hS3 : (S2 ++ [SO.lst ([] : List D)]).length = S2.length + 1 := by simp
  generalize S2 ++ [SO.lst ([] : List D)] = S3 at t3 d3 g3 hS3 ⊢
  cases q : ticks one other first second with
  | nil =>
    have e0 : (!decide ((([] : List Nat).map fun (t : Nat) => (t : Int)) = [])) = false := rfl
    rw [e0, if_neg Bool.false_ne_true, Wp_lc]
    simp only [evs_cons, evs_nil, Wp_bnd, Wp_ok, ev_var, List.getElem?_cons_zero, List.getElem?_cons_succ, it_ref, d3, Option.map_some, Oo_some]
    have hrep : ∀ t ∈ divs one other first second, ∀ S, reprD S (.tup [.str "never", .int (t : Int)]) = some (neverP t).shown := fun t ht S => by
      have hb := (div_mem (by omega) (by omega)).mp ht
      have hle := Nat.le_of_dvd (by omega) hb.2.1
      exact repr_nice (pu_pair _ _ _) (nice_pair (by decide +kernel) (b60 (by omega)))
    refine W_plain (fun _ => true) (fun d => match d with | .int t => .str (PyData.shown (.tuple [.str "never", .int t])) | d => d) (still_refl d3) (fun y hy => ?_) (fun y hy _ => ?_) ?_
    · simp only [setT_one, Option.bind_some, evt_nil, Wp_ok, and_self]
    · obtain ⟨t, ht, rfl⟩ := List.mem_map.mp hy
      have z2 : 2 ≤ sizeLine := by omega
      simp only [setT_one, Option.bind_some, ev_bi, ev_tup, evs_cons, evs_nil, ev_lit, ev_var, wipeD, List.set_cons_succ, List.set_cons_zero, List.getElem?_cons_zero, List.getElem?_cons_succ, Wp_bnd, Wp_ok, Wp_if, List.length_cons, List.length_nil, Wp_lift2, bv_repr, Ot_map]
      refine ⟨z2, ?_⟩
      show Oo (reprD S3 (.tup [.str "never", .int (t : Int)])) _
      rw [hrep t ht, Oo_some]
      exact ⟨by trivial, by trivial⟩
    rw [List.filter_eq_self.mpr (fun _ _ => rfl)]
    have ep : ((divs one other first second).map nD).map (fun d => match d with | .int t => D.str (PyData.shown (.tuple [.str "never", .int t])) | d => d) = (papers one other first second).map .str := by
      unfold papers
      rw [q, List.map_map, List.map_map]
      rfl
    rw [ep]
    refine ⟨by rw [← ep, List.length_map, List.length_map]; omega, ?_⟩
    exact fin _ _ (g3.trans (Gw.more _ _)) (lstAt_new rfl) (by omega)
  | cons t l =>
    have e0 : (!decide (((t :: l).map fun (t : Nat) => (t : Int)) = [])) = true := rfl
    have ht : t ∈ ticks one other first second := by rw [q]; exact List.mem_cons_self
    have htl := tick_lt h2 h4 a2 ht
    have z2 : 2 ≤ sizeLine := by omega
    have z1 : 1 ≤ sizeLine := by omega
    rw [q] at t3
    have hat : atI ((t :: l).map nD) 0 = some (nD t) := by
      unfold atI ixN
      rw [if_pos (Int.le_refl _), if_pos (by simp)]
      rfl
    have hrep : ∀ S, reprD S (.tup [.str "tick", nD t]) = some (tickP t).shown := fun S => repr_nice (pu_pair _ _ _) (nice_pair (by decide +kernel) (b60 (by omega)))
    rw [e0, if_pos rfl]
    simp only [ev_lst, ev_bi, ev_tup, ev_ix, evs_cons, evs_nil, ev_lit, ev_var, List.getElem?_cons_zero, List.getElem?_cons_succ, Wp_bnd, Wp_ok, Wp_if, Wp_map, List.length_cons, List.length_nil, Wp_lift2, bv_repr, Ot_map, ix_ref, t3, Option.bind_some, hat, Oo_some, hrep]
    refine ⟨z2, z1, ?_⟩
    have ep : [D.str (tickP t).shown] = (papers one other first second).map .str := by
      unfold papers
      rw [q]
      rfl
    rw [ep]
    exact fin _ _ (g3.trans (Gw.more _ _)) (lstAt_new rfl) (by omega)
/-- one judgement -/
theorem w_right {high : Int} (hh : 12 ≤ high) (hh2 : high ≤ 200) (hpot : Pot N r S) (hN : N < 2 ^ 28) (k : ∀ S', Pot (N + 21) r S' → Fr [r] S S' → P (.bl true) S') : Wp (cal (n + 6) 21 [.ref r, .int high] S) P := by
  refine Wp_call (F := f__law_right) rfl rfl ?_
  show Wo (exSs G W0 (cal (n + 5)) (_ :: _ :: b__law_right.drop 2) [some (.ref r), some (.int high), none, none, none, none, none, none, none, none, none, none, none, none, none, none, none] S) _ _
  have z2 : 2 ≤ sizeLine := by decide
  rw [Ws_cons, Ws_asg]
  simp only [ev_tup, ev_op, ev_call, ev_lit, ev_var, evs_cons, evs_nil, Wp_bnd, Wp_ok, Wp_if, Wp_lift2, ov_sub, Ot_some, List.getElem?_cons_zero, List.getElem?_cons_succ]
  refine w_take hpot (by omega) (by omega) (by omega) fun v S1 v0 v1 p1 f1 => ?_
  simp only [ov_add, Ot_some]
  refine w_take p1 (by omega) (by omega) (by omega) fun u S2 u0 u1 p2 f2 => ?_
  simp only [ov_add, Ot_some, List.length_cons, List.length_nil]
  refine ⟨z2, ?_⟩
  simp only [setT_two, Oo_some, List.set_cons_succ, List.set_cons_zero]
  obtain ⟨one, ho⟩ := Int.eq_ofNat_of_zero_le (show 0 ≤ 2 + v by omega)
  obtain ⟨other, ho2⟩ := Int.eq_ofNat_of_zero_le (show 0 ≤ 2 + u by omega)
  rw [ho, ho2, Ws_cons, Ws_asg]
  simp only [ev_tup, ev_call, ev_var, evs_cons, evs_nil, Wp_bnd, Wp_ok, Wp_if, List.getElem?_cons_zero, List.getElem?_cons_succ]
  refine w_take (upto := (one : Int)) p2 (by omega) (by omega) (by omega) fun a S3 a0 a1 p3 f3 => ?_
  refine w_take (upto := (other : Int)) p3 (by omega) (by omega) (by omega) fun b S4 b0 b1 p4 f4 => ?_
  simp only [List.length_cons, List.length_nil]
  refine ⟨z2, ?_⟩
  simp only [setT_two, Oo_some, List.set_cons_succ, List.set_cons_zero]
  obtain ⟨first, hf⟩ := Int.eq_ofNat_of_zero_le a0
  obtain ⟨second, hs⟩ := Int.eq_ofNat_of_zero_le b0
  subst hf hs
  exact stA (by omega) (by omega) (by omega) (by omega) (by omega) (by omega) p4 (by omega) fun S' hp f => k S' (hp.mono rfl (by omega)) ((f1.trans f2).trans ((f3.trans f4).trans f))
end
end K59

end
section
set_option Elab.async false
set_option linter.all false
set_option maxRecDepth 100000
set_option maxHeartbeats 1000000
namespace K59
open PySem L2 Mi
theorem w_law {n : Nat} {ns : List Int} (h : ns.length ≤ 63) : Wp (cal (n + 7) 22 [.frz (ns.map .int)] []) fun d _ => d = .bl true := by
  refine Wp_call (F := f_law) rfl rfl ?_
  show Wo (exSs G W0 (cal (n + 6)) (_ :: [_]) [some (.frz (ns.map .int)), none, none, none] []) _ _
  rw [Ws_cons, Ws_for]
  simp only [evs_cons, evs_nil, ev_call, ev_var, ev_lit, Wp_bnd, Wp_ok, List.getElem?_cons_zero, List.getElem?_cons_succ]
  refine w_cells h fun m m1 m3 => ?_
  have hl : lstAt ([] ++ [SO.lst (rgD 0 m)]) ([] : Sto).length = some (rgD 0 m) := lstAt_new rfl
  generalize ([] ++ [SO.lst (rgD 0 m)] : Sto) = S0 at hl ⊢
  generalize ([] : Sto).length = l at hl ⊢
  rw [it_ref, hl, Option.map_some, Oo_some]
  refine W_forGo (fun xs ρ S => (∃ p1 p2 p3, ρ = [some (.frz (ns.map .int)), p1, p2, p3]) ∧ lstAt S l = some (rgD 0 m) ∧ ∀ x ∈ xs, ∃ i, x = .int i ∧ 0 ≤ i ∧ i < 100) (fun x xs ρ S hJ => ?_) (fun ρ S hJ => ?_) (rgD 0 m) _ S0 ⟨⟨none, none, none, rfl⟩, hl, fun x hx => ?_⟩
  · obtain ⟨⟨p1, p2, p3, rfl⟩, hS, hx⟩ := hJ
    obtain ⟨i, rfl, i0, i1⟩ := hx x List.mem_cons_self
    refine ⟨_, rfl, ?_⟩
    show Wo (exSs G W0 (cal (n + 6)) (_ :: [_]) [some (.frz (ns.map .int)), some (.int i), p2, p3] S) _ _
    rw [Ws_cons, Ws_asg]
    simp only [evs_cons, evs_nil, ev_call, ev_var, ev_lit, Wp_bnd, Wp_ok, List.getElem?_cons_zero, List.getElem?_cons_succ]
    refine w_pot i0 i1 fun r S1 hpot g1 hr => ?_
    have hS1 := lst_gw g1 hS
    have nl : l ≠ r := by have := lst_lt hS; omega
    simp only [setT_one, Oo_some, List.set_cons_succ, List.set_cons_zero]
    have z4 : 4 ≤ sizeLine := by decide
    rw [Ws_cons, Ws_ite]
    simp only [ev_not, ev_bi, evs_cons, evs_nil, Wp_bnd, Wp_tst, Wp_ok, Wp_lift2]
    rw [Wp_lc]
    simp only [ev_tup, evs_cons, evs_nil, ev_lit, Wp_bnd, Wp_ok, Wp_if, List.length_cons, List.length_nil, it_tup, Oo_some]
    refine ⟨z4, ?_⟩
    refine Wp_mono (W_comp (P := fun ys S' => lstAt S' l = some (rgD 0 m) ∧ (∀ d ∈ ys, d = D.bl true) ∧ ys.length = 4) (fun xs ds S' => lstAt S' l = some (rgD 0 m) ∧ Pot (21 * ds.length) r S' ∧ (∀ d ∈ ds, d = D.bl true) ∧ (∀ x ∈ xs, ∃ h, x = D.int h ∧ 12 ≤ h ∧ h ≤ 200) ∧ ds.length + xs.length = 4) (fun y ys ds S' hJ => ?_) _ [] S1 ⟨hS1, by simpa using hpot, (fun d hd => nomatch hd), fun x hx => ?_, by rfl⟩ (fun ys S' hJ => ⟨hJ.1, hJ.2.2.1, by have := hJ.2.2.2.2; simp at this; omega⟩)) fun ys S' hh => ?_
    · obtain ⟨a1, a2, a3, a4, a5⟩ := hJ
      obtain ⟨hi, rfl, b1, b2⟩ := a4 y List.mem_cons_self
      simp at a5
      simp only [evt_nil, wipeD, setT_one, Option.bind_some, Wp_ok, if_true, List.set_cons_succ, List.set_cons_zero, evs_cons, evs_nil, ev_call, ev_var, Wp_bnd, List.getElem?_cons_zero, List.getElem?_cons_succ]
      refine w_right b1 b2 a2 (by omega) fun S2 q1 q2 => ?_
      refine ⟨rfl, lstAt_fr q2 a1 (by simpa using nl), q1.mono rfl (by simp; omega), fun d hd => ?_, fun x hx => a4 x (List.mem_cons_of_mem _ hx), by simp; omega⟩
      rcases List.mem_append.mp hd with z | z
      · exact a3 d z
      · exact List.mem_singleton.mp z
    · simp only [List.mem_cons, List.not_mem_nil, or_false] at hx
      rcases hx with rfl | rfl | rfl | rfl
      · exact ⟨_, rfl, by omega, by omega⟩
      · exact ⟨_, rfl, by omega, by omega⟩
      · exact ⟨_, rfl, by omega, by omega⟩
      · exact ⟨_, rfl, by omega, by omega⟩
    · rw [List.nil_append] at hh
      obtain ⟨a1, a2, a3⟩ := hh
      refine ⟨by omega, ?_⟩
      rw [all_true (lk0 _ [] _) a2, Ot_some, IsB_bl, IsB_bl]
      simp only [Bool.not_true, Bool.false_eq_true, if_false, Ws_nil]
      have a4 : lstAt (S' ++ [SO.lst ys]) l = some (rgD 0 m) := by rw [lstAt_app (lst_lt a1)]; exact a1
      exact ⟨still_refl a4, ⟨_, _, _, rfl⟩, a4, fun x hx' => hx x (List.mem_cons_of_mem _ hx')⟩
  · obtain ⟨⟨p1, p2, p3, rfl⟩, _⟩ := hJ
    rw [Ws_cons, Ws_ret, ev_lit, Wp_ok]
  · unfold rgD at hx
    obtain ⟨t, ht, rfl⟩ := List.mem_map.mp hx
    have := List.mem_range.mp ht
    exact ⟨_, rfl, by omega, by omega⟩
end K59

end
set_option Elab.async false
set_option linter.all false
set_option maxRecDepth 100000
set_option maxHeartbeats 0
open PySem PySem.W PySem.Calls PyProof.Rows
theorem PySem.Challenge.cw_neverrunaway_k59_whole_teeth_that_meet_holds : PySem.Challenge.rw_neverrunaway_k59_whole_teeth_that_meet.Holds := by
  w_on; o_law
  refine HandSHeadRun.head_any (r := OpenLaw.row PySem.Challenge.rw_neverrunaway_k59_whole_teeth_that_meet) (q := view (OpenLaw.row PySem.Challenge.rw_neverrunaway_k59_whole_teeth_that_meet).prog [33]) (H := K59.hk) (ob := K59.ob) (M := 3000) (loose := K59.names) (d := HandSHeadRun.topDef (OpenLaw.row PySem.Challenge.rw_neverrunaway_k59_whole_teeth_that_meet).prog 33) (kwd := []) K59.ob_eq
    (by kernel_rfl) (fun s => by kernel_rfl) K59.run (by kernel_rfl) (by kernel_rfl) (by kernel_rfl) (by rfl) (by first | assumption | decide +kernel) (by decide +kernel) ⟨rfl, rfl, rfl, rfl, rfl, by decide +kernel⟩ ?hw ?hc
  case hw => w_witness2
  case hc =>
    refine Mi.law_end (l := PySem.Challenge.rw_neverrunaway_k59_whole_teeth_that_meet) (fn := K59.fn) (Gn := K59.Gn) (T := K59.T) (NP := K59.NP) (W0 := K59.W0) (k := 6) (L := 22) (n := 63) (x := "script") (dl := K59.d_law) (by rfl) K59.chk K59.binds rfl (by kernel_rfl)
      (fun K a fd F s u => (L2.FunD.bindsA (ps := ["script"]) F fun _ _ _ _ _ _ us hl => match us, hl with | [_], _ => rfl) s [u] rfl) (fun p hp => by cases hp; rfl) rfl (by decide) (by kernel_rfl) ⟨rfl, by decide, by decide⟩ (by rfl) ?_
    intro ns hl
    obtain ⟨d, S, e, h⟩ := K59.w_law (n := 0) hl
    subst h
    exact ⟨S, e⟩

