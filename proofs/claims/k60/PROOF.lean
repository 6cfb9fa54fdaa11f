import PyProof.Rows.All
import Wide.All
import OpenK.AllK
import Wide.FinOn
import HandS.ForMost
import HandS.IsInst
import HandS.TupAny
import HandS.Style
import HandS.SortInts
import HandS.Wide
import HandS.WideBits
import HandS.Conv
import HandS.Text
import KE.KIntText
import HandS.Exc
import HandS.Defaults
import HandS.WordsExc
import HandS.Iter
import HandS.Comp
import HandS.Set
import HandS.ExcSuper
import HandS.Head0
import HandS.Head1
import HandS.Head2
import HandS.HeadEnd
import HandS.HeadHook1
import HandS.HeadHook2
import PySem.Challenge.RW_neverrunaway_k60_whole_ratios_told_by_fe
section
set_option Elab.async false
set_option linter.all false
set_option maxRecDepth 100000
set_option maxHeartbeats 4000000
/-! A small language over plain data: what the law's text does, as a function. -/
namespace Mi
open PySem L2

/-- a value: deep where nothing changes, a place in the store else -/
inductive D where
  | non | bl (b : Bool) | int (i : Int) | str (x : Str) | tup (xs : List D) | frz (xs : List D) | ref (n : Nat)
/-- what stands in the store -/
inductive SO where
  | lst (xs : List D)
  | dct (kvs : List (Key × D))
abbrev Sto := List SO
abbrev Loc := List (Option D)
inductive R (α : Type) where
  | ok (a : α) (S : Sto)
  | ex (c : Nat) (v : D) (S : Sto)
def bnd {α β : Type} (x : Option (R α)) (k : α → Sto → Option (R β)) : Option (R β) := match x with
  | some (.ok a S) => k a S
  | some (.ex c v S) => some (.ex c v S)
  | none => none
@[simp] theorem bnd_ok {α β : Type} (a : α) (S : Sto) (k : α → Sto → Option (R β)) : bnd (some (.ok a S)) k = k a S := rfl
@[simp] theorem bnd_none {α β : Type} (k : α → Sto → Option (R β)) : bnd none k = none := rfl

mutual
def D.beq : D → D → Bool
  | .non, .non => true
  | .bl a, .bl b => a == b
  | .int i, .int j => i == j
  | .str x, .str y => decide (x = y)
  | .tup xs, .tup ys => D.beqs xs ys
  | .frz xs, .frz ys => D.beqs xs ys
  | .ref n, .ref k => n == k
  | _, _ => false
def D.beqs : List D → List D → Bool
  | [], [] => true
  | x :: xs, y :: ys => D.beq x y && D.beqs xs ys
  | _, _ => false
end
mutual
theorem D.beq_eq : ∀ x y : D, D.beq x y = true → x = y := by
  intro x y h
  cases x <;> cases y <;> simp [D.beq] at h <;> try (first | rfl | (subst h; rfl))
  · exact congrArg D.tup (D.beqs_eq _ _ h)
  · exact congrArg D.frz (D.beqs_eq _ _ h)
theorem D.beqs_eq : ∀ xs ys : List D, D.beqs xs ys = true → xs = ys
  | [], [], _ => rfl
  | x :: xs, y :: ys, h => by
    simp [D.beqs] at h
    rw [D.beq_eq x y h.1, D.beqs_eq xs ys h.2]
  | [], _ :: _, h => by simp [D.beqs] at h
  | _ :: _, [], h => by simp [D.beqs] at h
end
mutual
theorem D.beq_refl : ∀ x : D, D.beq x x = true
  | .non => rfl
  | .bl a => by simp [D.beq]
  | .int i => by simp [D.beq]
  | .str x => by simp [D.beq]
  | .tup xs => by simp [D.beq, D.beqs_refl xs]
  | .frz xs => by simp [D.beq, D.beqs_refl xs]
  | .ref n => by simp [D.beq]
theorem D.beqs_refl : ∀ xs : List D, D.beqs xs xs = true
  | [] => rfl
  | x :: xs => by simp [D.beqs, D.beq_refl x, D.beqs_refl xs]
end

inductive Op2 where
  | add | sub | mul | fdiv | mod | pow
  deriving DecidableEq
inductive Cm where
  | lt | le | gt | ge | eq | ne | isN | notN | isIn | notIn
  deriving DecidableEq
inductive Bi where
  | len | int | abs | min2 | max2 | isi (t : String) | repr | str | all | any | sum | lst | tuple | sset | rng | rng1
inductive Ik where
  | seq | rng1 | rng2 | rng3
/-- what is assigned to: a slot, or a tuple of slots -/
inductive Tg where
  | one (i : Nat) | tup (is : List Nat)
def Tg.ix : Tg → List Nat
  | .one i => [i]
  | .tup is => is
inductive E where
  | var (i : Nat)
  | lit (d : D)
  | glb (k : Nat)
  | tup (es : List E)
  | lst (es : List E)
  | dic (ks : List Str) (es : List E)
  | op (o : Op2) (a b : E)
  | neg (a : E)
  | cmp (c : Cm) (a b : E)
  | chain (c1 c2 : Cm) (a b c : E)
  | and (es : List E)
  | or (es : List E)
  | not (a : E)
  | ite (c a b : E)
  | ix (a b : E)
  | slc (a : E) (lo hi : Option E)
  | rev (a : E)
  | call (f : Nat) (es : List E)
  | bi (b : Bi) (es : List E)
  | ext (a b : E)
  | app (a b : E)
  | lc (vs : List Nat) (t : Tg) (k : Ik) (its : List E) (cs : List E) (elt : E)
inductive Sm where
  | asg (t : Tg) (e : E)
  | setIx (o i e : E)
  | expr (e : E)
  | ret (e : E)
  | ite (c : E) (a b : List Sm)
  | for_ (t : Tg) (k : Ik) (its : List E) (body : List Sm)
  | whl (c : E) (body : List Sm)
  | never

/-! ### plain data -/
def tkey : Key → PyData
  | .inl i => .int i
  | .inr x => .str x
mutual
/-- a value as the library's data; f opens the store's objects -/
def toPyW (f : Nat → Option PyData) : D → Option PyData
  | .non => some .none
  | .bl b => some (.bool b)
  | .int i => some (.int i)
  | .str x => some (.str x)
  | .tup xs => (toPysW f xs).map .tuple
  | .frz xs => (toPysW f xs).map .list
  | .ref r => f r
def toPysW (f : Nat → Option PyData) : List D → Option (List PyData)
  | [] => some []
  | x :: xs => (toPyW f x).bind fun p => (toPysW f xs).map fun ps => p :: ps
end
def toPyR (S : Sto) : Nat → Nat → Option PyData
  | 0, _ => none
  | n + 1, r => match S[r]? with
    | some (.lst xs) => (toPysW (toPyR S n) xs).map .list
    | some (.dct kvs) => (toPysW (toPyR S n) (kvs.map (·.2))).map fun ps => .dict ((kvs.map fun q => tkey q.1).zip ps)
    | none => none
def toPy (S : Sto) (d : D) : Option PyData := toPyW (toPyR S 8) d
def toPys (S : Sto) (ds : List D) : Option (List PyData) := toPysW (toPyR S 8) ds

/-! ### operations -/
def flat : D → Bool
  | .non => true
  | .bl _ => true
  | .int _ => true
  | .str _ => true
  | _ => false
/-- a flat value, as the layer has it -/
def fV : D → V
  | .bl b => .bl b
  | .int i => .int i
  | .str x => .str x
  | _ => .non
def mulOk (i j : Int) : Prop := (-(2 ^ 64) < i ∧ i < 2 ^ 64) ∨ (-(2 ^ 64) < j ∧ j < 2 ^ 64) ∨ (-(2 ^ 4096) < i ∧ i < 2 ^ 4096 ∧ -(2 ^ 4096) < j ∧ j < 2 ^ 4096)
instance (i j : Int) : Decidable (mulOk i j) := by unfold mulOk; exact inferInstance
def powOk (i j : Int) : Prop := 0 ≤ j ∧ j ≤ 1000 ∧ -(2 ^ 4096) < i ∧ i < 2 ^ 4096
instance (i j : Int) : Decidable (powOk i j) := by unfold powOk; exact inferInstance
def lstAt (S : Sto) (r : Nat) : Option (List D) := match S[r]? with
  | some (.lst xs) => some xs
  | _ => none
def opD (S : Sto) : Op2 → D → D → Option (D × Sto)
  | .add, .int i, .int j => some (.int (i + j), S)
  | .add, .str x, .str y => if x.length + y.length ≤ sizeLine then some (.str (x ++ y), S) else none
  | .add, .tup xs, .tup ys => if xs.length + ys.length ≤ sizeLine then some (.tup (xs ++ ys), S) else none
  | .add, .ref a, .ref b => match S[a]?, S[b]? with
    | some (.lst xs), some (.lst ys) => if xs.length + ys.length ≤ sizeLine then some (.ref S.length, S ++ [.lst (xs ++ ys)]) else none
    | _, _ => none
  | .sub, .int i, .int j => some (.int (i - j), S)
  | .mul, .int i, .int j => if mulOk i j then some (.int (i * j), S) else none
  | .fdiv, .int i, .int j => if 0 < j ∧ j < 2 ^ 4096 then some (.int (i / j), S) else none
  | .mod, .int i, .int j => if 0 < j then some (.int (i % j), S) else none
  | .pow, .int i, .int j => if powOk i j then some (.int (i ^ j.toNat), S) else none
  | _, _, _ => none
def eqD (S : Sto) (x y : D) : Option Bool := match x, y with
  | .str a, .str b => some (decide (a = b))
  | _, _ => (toPy S x).bind fun p => (toPy S y).bind fun q => if (SeqAt.shaped p && SeqAt.shaped q) = true then some (PyData.eqv p q) else none
def inD (x : D) (ys : List D) : Option Bool := if (flat x && ys.all flat) = true then some (inV (fV x) (ys.map fV)) else none
def seqAt (S : Sto) : D → Option (List D)
  | .tup xs => some xs
  | .frz xs => some xs
  | .ref r => lstAt S r
  | _ => none
/-- in, by what the data say -/
def inDeep (S : Sto) (x y : D) : Option Bool := (toPy S x).bind fun p => (toPy S y).bind fun q => match q with
  | .list ps => if (p.canLay0 && (PyData.canLayAll0 ps && decide (p.depth ≤ 60))) = true then some (ps.any fun z => PyData.eqv z p) else none
  | .tuple ps => if (p.canLay0 && (PyData.canLayAll0 ps && decide (p.depth ≤ 60))) = true then some (ps.any fun z => PyData.eqv z p) else none
  | _ => none
def inS (S : Sto) (x y : D) : Option Bool := match (seqAt S y).bind (inD x) with
  | some b => some b
  | none => inDeep S x y
def isNonD : D → Bool
  | .non => true
  | _ => false
def cmpD (S : Sto) : Cm → D → D → Option Bool
  | .lt, .int i, .int j => some (decide (i < j))
  | .le, .int i, .int j => some (decide (i ≤ j))
  | .gt, .int i, .int j => some (decide (j < i))
  | .ge, .int i, .int j => some (decide (j ≤ i))
  | .eq, x, y => eqD S x y
  | .ne, x, y => (eqD S x y).map fun b => !b
  | .isN, x, .non => some (isNonD x)
  | .notN, x, .non => some (!isNonD x)
  | .isIn, x, y => inS S x y
  | .notIn, x, y => (inS S x y).map fun b => !b
  | _, _, _ => none
def ixD (S : Sto) : D → D → Option D
  | .str z, .int i => if z.length ≤ sizeLine then (atI z.cps.toList i).map fun c => .str ⟨#[c]⟩ else none
  | x, .int i => (seqAt S x).bind fun xs => atI xs i
  | _, _ => none
def cutD (xs : List D) (lo hi : Option Int) : List D := (xs.drop (HT.sIx xs.length 0 lo)).take (HT.sIx xs.length xs.length hi - HT.sIx xs.length 0 lo)
def slcD (S : Sto) : D → Option Int → Option Int → Option (D × Sto)
  | .tup xs, lo, hi => some (.tup (cutD xs lo hi), S)
  | .frz xs, lo, hi => some (.ref S.length, S ++ [.lst (cutD xs lo hi)])
  | .ref r, lo, hi => (lstAt S r).map fun xs => (.ref S.length, S ++ [.lst (cutD xs lo hi)])
  | _, _, _ => none
def revD (S : Sto) : D → Option (D × Sto)
  | .tup xs => some (.tup xs.reverse, S)
  | _ => none
def tyD (S : Sto) : D → Option String
  | .non => some "NoneType"
  | .bl _ => some "bool"
  | .int _ => some "int"
  | .str _ => some "str"
  | .tup _ => some "tuple"
  | .frz _ => some "list"
  | .ref r => match S[r]? with
    | some (.lst _) => some "list"
    | some (.dct _) => some "dict"
    | none => none
def isiD (S : Sto) (t : String) (d : D) : Option Bool := (tyD S d).bind fun a => kitB a t
def reprD (S : Sto) (d : D) : Option Str := (toPy S d).bind fun p => if p.showable = true ∧ p.depth ≤ 40 ∧ p.shown.length ≤ sizeLine then some p.shown else none
def blsOf : List D → Option (List Bool)
  | [] => some []
  | .bl b :: r => (blsOf r).map fun bs => b :: bs
  | _ :: _ => none
def intsOf : List D → Option (List Int)
  | [] => some []
  | .int i :: r => (intsOf r).map fun is => i :: is
  | _ :: _ => none
/-- laid in its place, once -/
def insU (x : Int) : List Int → List Int
  | [] => [x]
  | y :: ys => if x < y then x :: y :: ys else if x = y then y :: ys else y :: insU x ys
def ssetI (is : List Int) : List Int := is.foldr insU []
def rgD (a b : Int) : List D := (List.range (b - a).toNat).map fun (i : Nat) => D.int (a + (i : Int))
def rgOk (a b : Int) : Prop := -(2 ^ 62) ≤ a ∧ a < 2 ^ 62 ∧ -(2 ^ 62) ≤ b ∧ b < 2 ^ 62 ∧ (b - a).toNat ≤ 2 ^ 24
instance (i j : Int) : Decidable (rgOk i j) := by unfold rgOk; exact inferInstance
def biD (S : Sto) : Bi → List D → Option (D × Sto)
  | .len, [.str z] => if z.length ≤ sizeLine then some (.int z.length, S) else none
  | .len, [x] => (seqAt S x).map fun xs => (.int xs.length, S)
  | .int, [.int i] => some (.int i, S)
  | .int, [.bl b] => some (.int (if b then 1 else 0), S)
  | .abs, [.int i] => some (.int (if i < 0 then -i else i), S)
  | .min2, [.int i, .int j] => some (.int (if j < i then j else i), S)
  | .max2, [.int i, .int j] => some (.int (if j > i then j else i), S)
  | .isi t, [x] => (isiD S t x).map fun b => (.bl b, S)
  | .repr, [x] => (reprD S x).map fun z => (.str z, S)
  | .str, [.int i] => if i.natAbs.log2 < 1920 then some (.str (toString i), S) else none
  | .all, [.ref r] => (lstAt S r).bind fun xs => (blsOf xs).map fun bs => (.bl (bs.all id), S)
  | .any, [.ref r] => (lstAt S r).bind fun xs => (blsOf xs).map fun bs => (.bl (bs.any id), S)
  | .sum, [.ref r] => (lstAt S r).bind fun xs => (intsOf xs).map fun is => (.int is.sum, S)
  | .lst, [x] => (seqAt S x).map fun xs => (.ref S.length, S ++ [.lst xs])
  | .tuple, [x] => (seqAt S x).map fun xs => (.tup xs, S)
  | .rng, [.int a, .int b] => if rgOk a b then some (.ref S.length, S ++ [.lst (rgD a b)]) else none
  | .rng1, [.int b] => if rgOk 0 b then some (.ref S.length, S ++ [.lst (rgD 0 b)]) else none
  | .sset, [.ref r] => (lstAt S r).bind fun xs => (intsOf xs).bind fun is => if is.length < 4000 then some (.ref S.length, S ++ [.lst ((ssetI is).map .int)]) else none
  | _, _ => none

/-! ### what is walked -/
def rngN (a b c : Int) : Option Nat := if 0 < c ∧ -(2 ^ 62) ≤ a ∧ a < 2 ^ 62 ∧ -(2 ^ 62) ≤ b ∧ b < 2 ^ 62 ∧ c < 1073741824 then some ((b - a + c - 1) / c).toNat else none
/-- the items, and the list that they lie in -/
def itD (S : Sto) : Ik → List D → Option (List D × Option Nat)
  | .seq, [.tup xs] => some (xs, none)
  | .seq, [.frz xs] => some (xs, none)
  | .seq, [.ref r] => (lstAt S r).map fun xs => (xs, some r)
  | .rng1, [.int b] => if -(2 ^ 62) ≤ b ∧ b < 2 ^ 62 then some (rgD 0 b, none) else none
  | .rng2, [.int a, .int b] => if -(2 ^ 62) ≤ a ∧ a < 2 ^ 62 ∧ -(2 ^ 62) ≤ b ∧ b < 2 ^ 62 then some (rgD a b, none) else none
  | .rng3, [.int a, .int b, .int c] => (rngN a b c).map fun n => ((List.range n).map fun (i : Nat) => D.int (a + (i : Int) * c), none)
  | _, _ => none
/-- the list that is walked is as it was -/
def still (g : Option Nat) (xs : List D) (S : Sto) : Bool := match g with
  | none => true
  | some r => match lstAt S r with
    | some ys => D.beqs xs ys
    | none => false
def compGo (cond : D → Sto → Option (R Bool)) (elt : D → Sto → Option (R D)) (ok : Sto → Bool) : List D → Sto → Option (R (List D))
  | [], S => some (.ok [] S)
  | x :: xs, S => bnd (cond x S) fun b S1 => if b = true then bnd (elt x S1) fun d S2 => if ok S2 = true then bnd (compGo cond elt ok xs S2) fun ds S3 => some (.ok (d :: ds) S3) else none
    else if ok S1 = true then compGo cond elt ok xs S1 else none
def wipeD (ρ : Loc) : List Nat → Loc
  | [] => ρ
  | v :: vs => (wipeD ρ vs).set v none
def setAll : Loc → List Nat → List D → Loc
  | ρ, i :: is, d :: ds => setAll (ρ.set i (some d)) is ds
  | ρ, _, _ => ρ
def setT (ρ : Loc) : Tg → D → Option Loc
  | .one i, d => some (ρ.set i (some d))
  | .tup is, .tup xs => if xs.length = is.length then some (setAll ρ is xs) else none
  | _, _ => none
/-- no error leaves -/
def noX {α : Type} : Option (R α) → Option (R α)
  | some (.ok a S) => some (.ok a S)
  | _ => none
def tst (x : Option (R D)) : Option (R Bool) := bnd x fun d S => match d with
  | .bl b => some (.ok b S)
  | _ => none
def lift2 (x : Option (D × Sto)) : Option (R D) := x.map fun q => .ok q.1 q.2
def isL (S : Sto) : D → Bool
  | .ref r => (lstAt S r).isSome
  | _ => false
def appD (S : Sto) (x y : D) : Option (R D) := match x with
  | .ref r => match lstAt S r with
    | some xs => if xs.length < sizeLine then some (.ok .non (S.set r (.lst (xs ++ [y])))) else none
    | none => none
  | _ => none
def extD (S : Sto) (x y : D) : Option (R D) := match x, y with
  | .ref r, .ref q => match lstAt S r, lstAt S q with
    | some xs, some ys => if xs.length + ys.length ≤ sizeLine then some (.ok .non (S.set r (.lst (xs ++ ys)))) else none
    | _, _ => none
  | _, _ => none
abbrev Cal := Nat → List D → Sto → Option (R D)
mutual
def evE (G : List D) (cal : Cal) : E → Loc → Sto → Option (R D)
  | .var i, ρ, S => match ρ[i]? with
    | some (some d) => some (.ok d S)
    | _ => none
  | .lit d, _, S => some (.ok d S)
  | .glb k, _, S => match G[k]? with
    | some d => some (.ok d S)
    | none => none
  | .tup es, ρ, S => bnd (evEs G cal es ρ S) fun ds S1 => if ds.length ≤ sizeLine then some (.ok (.tup ds) S1) else none
  | .lst es, ρ, S => bnd (evEs G cal es ρ S) fun ds S1 => if ds.length ≤ sizeLine then some (.ok (.ref S1.length) (S1 ++ [.lst ds])) else none
  | .dic ks es, ρ, S => bnd (evEs G cal es ρ S) fun ds S1 => some (.ok (.ref S1.length) (S1 ++ [.dct ((ks.map Sum.inr).zip ds)]))
  | .op o a b, ρ, S => bnd (evE G cal a ρ S) fun x S1 => bnd (evE G cal b ρ S1) fun y S2 => lift2 (opD S2 o x y)
  | .neg a, ρ, S => bnd (evE G cal a ρ S) fun x S1 => match x with
    | .int i => some (.ok (.int (-i)) S1)
    | _ => none
  | .cmp c a b, ρ, S => bnd (evE G cal a ρ S) fun x S1 => bnd (evE G cal b ρ S1) fun y S2 => (cmpD S2 c x y).map fun r => .ok (.bl r) S2
  | .chain c1 c2 a b c, ρ, S => bnd (evE G cal a ρ S) fun x S1 => bnd (evE G cal b ρ S1) fun y S2 => match cmpD S2 c1 x y with
    | some true => bnd (evE G cal c ρ S2) fun z S3 => (cmpD S3 c2 y z).map fun r => .ok (.bl r) S3
    | some false => some (.ok (.bl false) S2)
    | none => none
  | .and es, ρ, S => evAnd G cal es ρ S
  | .or es, ρ, S => evOr G cal es ρ S
  | .not a, ρ, S => bnd (tst (evE G cal a ρ S)) fun b S1 => some (.ok (.bl (!b)) S1)
  | .ite c a b, ρ, S => bnd (tst (evE G cal c ρ S)) fun t S1 => if t = true then evE G cal a ρ S1 else evE G cal b ρ S1
  | .ix a b, ρ, S => bnd (evE G cal a ρ S) fun x S1 => bnd (evE G cal b ρ S1) fun y S2 => (ixD S2 x y).map fun r => .ok r S2
  | .slc a lo hi, ρ, S => bnd (evE G cal a ρ S) fun x S1 => bnd (evO G cal lo ρ S1) fun l S2 => bnd (evO G cal hi ρ S2) fun h S3 => lift2 (slcD S3 x l h)
  | .rev a, ρ, S => bnd (evE G cal a ρ S) fun x S1 => lift2 (revD S1 x)
  | .call f es, ρ, S => bnd (evEs G cal es ρ S) fun ds S1 => cal f ds S1
  | .bi b es, ρ, S => bnd (evEs G cal es ρ S) fun ds S1 => lift2 (biD S1 b ds)
  | .ext a b, ρ, S => bnd (evE G cal a ρ S) fun x S1 => if isL S1 x = true then bnd (evE G cal b ρ S1) fun y S2 => extD S2 x y else none
  | .app a b, ρ, S => bnd (evE G cal a ρ S) fun x S1 => if isL S1 x = true then bnd (evE G cal b ρ S1) fun y S2 => appD S2 x y else none
  | .lc vs t k its cs elt, ρ, S => bnd (evEs G cal its ρ S) fun ds S1 => match itD S1 k ds with
    | some (xs, g) => bnd (noX (compGo (fun x S2 => (setT (wipeD ρ vs) t x).bind fun ρ' => evTs G cal cs ρ' S2) (fun x S2 => (setT (wipeD ρ vs) t x).bind fun ρ' => evE G cal elt ρ' S2) (still g xs) xs S1)) fun ys S3 =>
        if ys.length ≤ sizeLine then some (.ok (.ref S3.length) (S3 ++ [.lst ys])) else none
    | none => none
def evEs (G : List D) (cal : Cal) : List E → Loc → Sto → Option (R (List D))
  | [], _, S => some (.ok [] S)
  | e :: es, ρ, S => bnd (evE G cal e ρ S) fun d S1 => bnd (evEs G cal es ρ S1) fun ds S2 => some (.ok (d :: ds) S2)
def evAnd (G : List D) (cal : Cal) : List E → Loc → Sto → Option (R D)
  | [], _, _ => none
  | e :: es, ρ, S => match es with
    | [] => bnd (tst (evE G cal e ρ S)) fun b S1 => some (.ok (.bl b) S1)
    | _ :: _ => bnd (tst (evE G cal e ρ S)) fun b S1 => if b = true then evAnd G cal es ρ S1 else some (.ok (.bl false) S1)
def evOr (G : List D) (cal : Cal) : List E → Loc → Sto → Option (R D)
  | [], _, _ => none
  | e :: es, ρ, S => match es with
    | [] => bnd (tst (evE G cal e ρ S)) fun b S1 => some (.ok (.bl b) S1)
    | _ :: _ => bnd (tst (evE G cal e ρ S)) fun b S1 => if b = true then some (.ok (.bl true) S1) else evOr G cal es ρ S1
def evTs (G : List D) (cal : Cal) : List E → Loc → Sto → Option (R Bool)
  | [], _, S => some (.ok true S)
  | e :: es, ρ, S => bnd (tst (evE G cal e ρ S)) fun b S1 => if b = true then evTs G cal es ρ S1 else some (.ok false S1)
def evO (G : List D) (cal : Cal) : Option E → Loc → Sto → Option (R (Option Int))
  | none, _, S => some (.ok none S)
  | some e, ρ, S => bnd (evE G cal e ρ S) fun d S1 => match d with
    | .int i => some (.ok (some i) S1)
    | _ => none
end

/-! ### statements -/
inductive O where
  | nx (ρ : Loc) (S : Sto)
  | rt (d : D) (S : Sto)
  | ex (c : Nat) (v : D) (S : Sto)
def whlGo (cond : Loc → Sto → Option (R Bool)) (body : Loc → Sto → Option O) : Nat → Loc → Sto → Option O
  | 0, _, _ => none
  | n + 1, ρ, S => match cond ρ S with
    | some (.ok true S1) => match body ρ S1 with
      | some (.nx ρ2 S2) => whlGo cond body n ρ2 S2
      | some (.rt d S2) => some (.rt d S2)
      | some (.ex c v S2) => some (.ex c v S2)
      | none => none
    | some (.ok false S1) => some (.nx ρ S1)
    | some (.ex c v S1) => some (.ex c v S1)
    | none => none
def forGo (t : Tg) (body : Loc → Sto → Option O) (ok : Sto → Bool) : List D → Loc → Sto → Option O
  | [], ρ, S => some (.nx ρ S)
  | x :: xs, ρ, S => match (setT ρ t x).bind fun ρ1 => body ρ1 S with
    | some (.nx ρ2 S2) => if ok S2 = true then forGo t body ok xs ρ2 S2 else none
    | some (.rt d S2) => some (.rt d S2)
    | some (.ex c v S2) => some (.ex c v S2)
    | none => none
def ofE (x : Option (R D)) (k : D → Sto → Option O) : Option O := match x with
  | some (.ok d S) => k d S
  | some (.ex c v S) => some (.ex c v S)
  | none => none
mutual
def exS (G : List D) (W : Nat) (cal : Cal) : Sm → Loc → Sto → Option O
  | .asg t e, ρ, S => ofE (evE G cal e ρ S) fun d S1 => (setT ρ t d).map fun ρ1 => .nx ρ1 S1
  | .setIx o i e, ρ, S => ofE (evE G cal e ρ S) fun v S1 => ofE (evE G cal o ρ S1) fun x S2 => ofE (evE G cal i ρ S2) fun y S3 => match x, y with
    | .ref r, .int n => match S3[r]? with
      | some (.lst xs) => match ixN xs.length n with
        | some j => some (.nx ρ (S3.set r (.lst (xs.set j v))))
        | none => none
      | _ => none
    | _, _ => none
  | .expr e, ρ, S => ofE (evE G cal e ρ S) fun _ S1 => some (.nx ρ S1)
  | .ret e, ρ, S => ofE (evE G cal e ρ S) fun d S1 => some (.rt d S1)
  | .ite c a b, ρ, S => match tst (evE G cal c ρ S) with
    | some (.ok true S1) => exSs G W cal a ρ S1
    | some (.ok false S1) => exSs G W cal b ρ S1
    | some (.ex c v S1) => some (.ex c v S1)
    | none => none
  | .for_ t k its body, ρ, S => match evEs G cal its ρ S with
    | some (.ok ds S1) => match itD S1 k ds with
      | some (xs, g) => forGo t (fun ρ S => exSs G W cal body ρ S) (still g xs) xs ρ S1
      | none => none
    | some (.ex c v S1) => some (.ex c v S1)
    | none => none
  | .whl c body, ρ, S => whlGo (fun ρ S => tst (evE G cal c ρ S)) (fun ρ S => exSs G W cal body ρ S) W ρ S
  | .never, _, _ => none
def exSs (G : List D) (W : Nat) (cal : Cal) : List Sm → Loc → Sto → Option O
  | [], ρ, S => some (.nx ρ S)
  | s :: ss, ρ, S => match exS G W cal s ρ S with
    | some (.nx ρ1 S1) => exSs G W cal ss ρ1 S1
    | some (.rt d S1) => some (.rt d S1)
    | some (.ex c v S1) => some (.ex c v S1)
    | none => none
end
/-- a def: how many parameters, how many slots, its body -/
structure Fd where
  name : Str
  np : Nat
  ns : Nat
  body : List Sm
def calF (G : List D) (W : Nat) (T : List Fd) : Nat → Cal
  | 0, _, _, _ => none
  | n + 1, f, ds, S => match T[f]? with
    | some F => if ds.length = F.np then match exSs G W (calF G W T n) F.body (ds.map some ++ List.replicate (F.ns - ds.length) none) S with
        | some (.nx _ S1) => some (.ok .non S1)
        | some (.rt d S1) => some (.ok d S1)
        | some (.ex c v S1) => some (.ex c v S1)
        | none => none
      else none
    | none => none
end Mi

end
section
set_option Elab.async false
set_option linter.all false
set_option maxRecDepth 100000
set_option maxHeartbeats 1000000
/-! What a text does, backwards from what is wanted. -/
namespace Mi
open PySem L2
/-- it ends without an error, and so -/
def Wp {α : Type} (x : Option (R α)) (P : α → Sto → Prop) : Prop := ∃ a S, x = some (.ok a S) ∧ P a S
def Wo (x : Option O) (Pn : Loc → Sto → Prop) (Pr : D → Sto → Prop) : Prop := (∃ ρ S, x = some (.nx ρ S) ∧ Pn ρ S) ∨ ∃ d S, x = some (.rt d S) ∧ Pr d S
/-- there, and so -/
def Oo {γ : Type} (x : Option γ) (P : γ → Prop) : Prop := match x with
  | some a => P a
  | none => False
def Ot (x : Option (D × Sto)) (P : D → Sto → Prop) : Prop := match x with
  | some q => P q.1 q.2
  | none => False
def IsB (d : D) (P : Bool → Prop) : Prop := match d with
  | .bl b => P b
  | _ => False
def IsI (d : D) (P : Int → Prop) : Prop := match d with
  | .int b => P b
  | _ => False
def IsR (d : D) (P : Nat → Prop) : Prop := match d with
  | .ref b => P b
  | _ => False
section
variable {γ δ : Type}
@[simp] theorem Oo_some (a : γ) (P : γ → Prop) : Oo (some a) P ↔ P a := Iff.rfl
@[simp] theorem Oo_none (P : γ → Prop) : Oo none P ↔ False := Iff.rfl
@[simp] theorem Oo_map (x : Option γ) (f : γ → δ) (P : δ → Prop) : Oo (x.map f) P ↔ Oo x fun a => P (f a) := by cases x <;> exact Iff.rfl
@[simp] theorem Oo_bind (x : Option γ) (f : γ → Option δ) (P : δ → Prop) : Oo (x.bind f) P ↔ Oo x fun a => Oo (f a) P := by cases x <;> exact Iff.rfl
@[simp] theorem Oo_if {c : Prop} [Decidable c] (x : Option γ) (P : γ → Prop) : Oo (if c then x else none) P ↔ c ∧ Oo x P := by
  by_cases h : c
  · rw [if_pos h]; exact ⟨fun z => ⟨h, z⟩, fun z => z.2⟩
  · rw [if_neg h]; exact ⟨fun z => z.elim, fun z => h z.1⟩
@[simp] theorem Ot_some (d : D) (S : Sto) (P : D → Sto → Prop) : Ot (some (d, S)) P ↔ P d S := Iff.rfl
@[simp] theorem Ot_none (P : D → Sto → Prop) : Ot none P ↔ False := Iff.rfl
@[simp] theorem Ot_map (x : Option γ) (f : γ → D) (g : γ → Sto) (P : D → Sto → Prop) : Ot (x.map fun a => (f a, g a)) P ↔ Oo x fun a => P (f a) (g a) := by cases x <;> exact Iff.rfl
@[simp] theorem Ot_bind (x : Option γ) (f : γ → Option (D × Sto)) (P : D → Sto → Prop) : Ot (x.bind f) P ↔ Oo x fun a => Ot (f a) P := by cases x <;> exact Iff.rfl
@[simp] theorem Ot_if {c : Prop} [Decidable c] (x : Option (D × Sto)) (P : D → Sto → Prop) : Ot (if c then x else none) P ↔ c ∧ Ot x P := by
  by_cases h : c
  · rw [if_pos h]; exact ⟨fun z => ⟨h, z⟩, fun z => z.2⟩
  · rw [if_neg h]; exact ⟨fun z => z.elim, fun z => h z.1⟩
@[simp] theorem IsB_bl (b : Bool) (P : Bool → Prop) : IsB (.bl b) P ↔ P b := Iff.rfl
@[simp] theorem IsI_int (b : Int) (P : Int → Prop) : IsI (.int b) P ↔ P b := Iff.rfl
@[simp] theorem IsR_ref (b : Nat) (P : Nat → Prop) : IsR (.ref b) P ↔ P b := Iff.rfl
theorem Oo_ex (x : Option γ) (P : γ → Prop) : Oo x P ↔ ∃ r, x = some r ∧ P r := by
  cases x with
  | none => exact ⟨fun h => h.elim, fun ⟨r, e, _⟩ => (by cases e)⟩
  | some a => exact ⟨fun h => ⟨a, rfl, h⟩, fun ⟨r, e, h⟩ => by cases e; exact h⟩
theorem Ot_ex (x : Option (D × Sto)) (P : D → Sto → Prop) : Ot x P ↔ ∃ q, x = some q ∧ P q.1 q.2 := by
  cases x with
  | none => exact ⟨fun h => h.elim, fun ⟨r, e, _⟩ => (by cases e)⟩
  | some a => exact ⟨fun h => ⟨a, rfl, h⟩, fun ⟨r, e, h⟩ => by cases e; exact h⟩
theorem IsB_ex (d : D) (P : Bool → Prop) : IsB d P ↔ ∃ b, d = .bl b ∧ P b := by
  cases d <;> first | exact ⟨fun h => ⟨_, rfl, h⟩, fun ⟨b, e, h⟩ => by cases e; exact h⟩ | exact ⟨fun h => h.elim, fun ⟨b, e, h⟩ => by cases e⟩
theorem IsI_ex (d : D) (P : Int → Prop) : IsI d P ↔ ∃ b, d = .int b ∧ P b := by
  cases d <;> first | exact ⟨fun h => ⟨_, rfl, h⟩, fun ⟨b, e, h⟩ => by cases e; exact h⟩ | exact ⟨fun h => h.elim, fun ⟨b, e, h⟩ => by cases e⟩
theorem IsR_ex (d : D) (P : Nat → Prop) : IsR d P ↔ ∃ b, d = .ref b ∧ P b := by
  cases d <;> first | exact ⟨fun h => ⟨_, rfl, h⟩, fun ⟨b, e, h⟩ => by cases e; exact h⟩ | exact ⟨fun h => h.elim, fun ⟨b, e, h⟩ => by cases e⟩
end
section
variable {α β : Type} {P : α → Sto → Prop} {Q : β → Sto → Prop}
@[simp] theorem Wp_ok (a : α) (S : Sto) : Wp (some (.ok a S)) P ↔ P a S := ⟨fun ⟨b, T, e, h⟩ => by cases e; exact h, fun h => ⟨a, S, rfl, h⟩⟩
@[simp] theorem Wp_none : Wp (none : Option (R α)) P ↔ False := ⟨fun ⟨b, T, e, h⟩ => (by cases e), fun h => h.elim⟩
@[simp] theorem Wp_ex (c : Nat) (v : D) (S : Sto) : Wp (some (.ex c v S) : Option (R α)) P ↔ False := ⟨fun ⟨b, T, e, h⟩ => (by cases e), fun h => h.elim⟩
@[simp] theorem Wp_bnd (x : Option (R α)) (k : α → Sto → Option (R β)) : Wp (bnd x k) Q ↔ Wp x fun a S => Wp (k a S) Q := by
  cases x with
  | none => exact ⟨fun ⟨b, T, e, h⟩ => (by cases e), fun ⟨b, T, e, h⟩ => (by cases e)⟩
  | some r =>
    cases r with
    | ok a S => rw [bnd_ok, Wp_ok]
    | ex c v S => exact ⟨fun ⟨b, T, e, h⟩ => (by cases e), fun ⟨b, T, e, h⟩ => (by cases e)⟩
theorem Wp_mono {x : Option (R α)} {P' : α → Sto → Prop} (h : Wp x P) (k : ∀ a S, P a S → P' a S) : Wp x P' := by
  obtain ⟨a, S, e, h⟩ := h
  exact ⟨a, S, e, k a S h⟩
@[simp] theorem Wp_map {γ : Type} {P : α → Sto → Prop} (x : Option γ) (f : γ → α) (S : Sto) : Wp (x.map fun r => R.ok (f r) S) P ↔ Oo x fun r => P (f r) S := by
  rw [Oo_ex]
  cases x with
  | none => exact ⟨fun ⟨b, T, e, h⟩ => (by cases e), fun ⟨r, e, h⟩ => (by cases e)⟩
  | some r =>
    show Wp (some (R.ok (f r) S)) P ↔ _
    rw [Wp_ok]
    exact ⟨fun h => ⟨r, rfl, h⟩, fun ⟨q, e, h⟩ => by cases e; exact h⟩
@[simp] theorem Wp_lift2 {P : D → Sto → Prop} (x : Option (D × Sto)) : Wp (lift2 x) P ↔ Ot x P := by
  rw [Ot_ex]
  unfold lift2
  cases x with
  | none => exact ⟨fun ⟨b, T, e, h⟩ => (by cases e), fun ⟨r, e, h⟩ => (by cases e)⟩
  | some q =>
    show Wp (some (R.ok q.1 q.2)) P ↔ _
    rw [Wp_ok]
    exact ⟨fun h => ⟨q, rfl, h⟩, fun ⟨p, e, h⟩ => by cases e; exact h⟩
@[simp] theorem Wp_if {c : Prop} [Decidable c] (x : Option (R α)) : Wp (if c then x else none) P ↔ c ∧ Wp x P := by
  by_cases h : c
  · rw [if_pos h]; exact ⟨fun z => ⟨h, z⟩, fun z => z.2⟩
  · rw [if_neg h, Wp_none]; exact ⟨fun z => z.elim, fun z => h z.1⟩
@[simp] theorem Wp_tst {P : Bool → Sto → Prop} (x : Option (R D)) : Wp (tst x) P ↔ Wp x fun d S => IsB d fun b => P b S := by
  simp only [IsB_ex]
  unfold tst
  rw [Wp_bnd]
  constructor
  · rintro ⟨d, S, e, h⟩
    refine ⟨d, S, e, ?_⟩
    cases d <;> first | (rw [Wp_none] at h; exact h.elim) | skip
    rename_i b
    rw [Wp_ok] at h
    exact ⟨b, rfl, h⟩
  · rintro ⟨d, S, e, b, rfl, h⟩
    exact ⟨_, S, e, (Wp_ok b S).mpr h⟩
@[simp] theorem Wp_noX (x : Option (R α)) : Wp (noX x) P ↔ Wp x P := by
  cases x with
  | none => exact Iff.rfl
  | some r =>
    cases r with
    | ok a S => exact Iff.rfl
    | ex c v S => exact ⟨fun ⟨b, T, e, h⟩ => (by cases e), fun ⟨b, T, e, h⟩ => (by cases e)⟩
variable {Pn : Loc → Sto → Prop} {Pr : D → Sto → Prop}
@[simp] theorem Wo_nx (ρ : Loc) (S : Sto) : Wo (some (.nx ρ S)) Pn Pr ↔ Pn ρ S := by
  refine ⟨fun h => ?_, fun h => .inl ⟨ρ, S, rfl, h⟩⟩
  rcases h with ⟨a, b, e, h⟩ | ⟨a, b, e, h⟩
  · cases e; exact h
  · cases e
@[simp] theorem Wo_rt (d : D) (S : Sto) : Wo (some (.rt d S)) Pn Pr ↔ Pr d S := by
  refine ⟨fun h => ?_, fun h => .inr ⟨d, S, rfl, h⟩⟩
  rcases h with ⟨a, b, e, h⟩ | ⟨a, b, e, h⟩
  · cases e
  · cases e; exact h
@[simp] theorem Wo_none : Wo none Pn Pr ↔ False := by
  refine ⟨fun h => ?_, fun h => h.elim⟩
  rcases h with ⟨a, b, e, h⟩ | ⟨a, b, e, h⟩ <;> cases e
@[simp] theorem Wo_exn (c : Nat) (v : D) (S : Sto) : Wo (some (.ex c v S)) Pn Pr ↔ False := by
  refine ⟨fun h => ?_, fun h => h.elim⟩
  rcases h with ⟨a, b, e, h⟩ | ⟨a, b, e, h⟩ <;> cases e
theorem Wo_ofE (x : Option (R D)) (k : D → Sto → Option O) : Wo (ofE x k) Pn Pr ↔ Wp x fun d S => Wo (k d S) Pn Pr := by
  cases x with
  | none => exact ⟨fun h => (Wo_none.mp h).elim, fun h => (Wp_none.mp h).elim⟩
  | some r =>
    cases r with
    | ok a S => exact ((Wp_ok (P := fun d S => Wo (k d S) Pn Pr) a S)).symm
    | ex c v S => exact ⟨fun h => (Wo_exn c v S |>.mp h).elim, fun h => (Wp_ex c v S |>.mp h).elim⟩
theorem Wo_map (x : Option Loc) (S : Sto) : Wo (x.map fun ρ1 => .nx ρ1 S) Pn Pr ↔ Oo x fun ρ1 => Pn ρ1 S := by
  rw [Oo_ex]
  cases x with
  | none => exact ⟨fun h => (Wo_none.mp h).elim, fun ⟨r, e, h⟩ => (by cases e)⟩
  | some r =>
    show Wo (some (.nx r S)) Pn Pr ↔ _
    rw [Wo_nx]
    exact ⟨fun h => ⟨r, rfl, h⟩, fun ⟨q, e, h⟩ => by cases e; exact h⟩
/-- one after the other -/
def seqO (x : Option O) (k : Loc → Sto → Option O) : Option O := match x with
  | some (.nx ρ1 S1) => k ρ1 S1
  | some (.rt d S1) => some (.rt d S1)
  | some (.ex c v S1) => some (.ex c v S1)
  | none => none
theorem Wo_seq (x : Option O) (k : Loc → Sto → Option O) : Wo (seqO x k) Pn Pr ↔ Wo x (fun ρ S => Wo (k ρ S) Pn Pr) Pr := by
  cases x with
  | none => exact ⟨fun h => (Wo_none.mp h).elim, fun h => (Wo_none.mp h).elim⟩
  | some o =>
    cases o with
    | nx ρ S => exact (Wo_nx (Pn := fun ρ S => Wo (k ρ S) Pn Pr) (Pr := Pr) ρ S).symm
    | rt d S =>
      show Wo (some (.rt d S)) Pn Pr ↔ _
      rw [Wo_rt, Wo_rt]
    | ex c v S => exact ⟨fun h => (Wo_exn c v S |>.mp h).elim, fun h => (Wo_exn c v S |>.mp h).elim⟩
theorem Wo_mono {x : Option O} {Pn' : Loc → Sto → Prop} {Pr' : D → Sto → Prop} (h : Wo x Pn Pr) (k : ∀ ρ S, Pn ρ S → Pn' ρ S) (k' : ∀ d S, Pr d S → Pr' d S) : Wo x Pn' Pr' := by
  rcases h with ⟨a, b, e, h⟩ | ⟨a, b, e, h⟩
  · exact .inl ⟨a, b, e, k _ _ h⟩
  · exact .inr ⟨a, b, e, k' _ _ h⟩
end
section
variable {G : List D} {W : Nat} {cal : Cal} {ρ : Loc} {S : Sto} {Pn : Loc → Sto → Prop} {Pr : D → Sto → Prop}
@[simp] theorem Ws_nil : Wo (exSs G W cal [] ρ S) Pn Pr ↔ Pn ρ S := by rw [exSs, Wo_nx]
@[simp] theorem Ws_cons (s : Sm) (ss : List Sm) : Wo (exSs G W cal (s :: ss) ρ S) Pn Pr ↔ Wo (exS G W cal s ρ S) (fun ρ1 S1 => Wo (exSs G W cal ss ρ1 S1) Pn Pr) Pr := by
  have e : exSs G W cal (s :: ss) ρ S = seqO (exS G W cal s ρ S) (exSs G W cal ss) := by rw [exSs] <;> rfl
  rw [e, Wo_seq]
@[simp] theorem Ws_asg (t : Tg) (e : E) : Wo (exS G W cal (.asg t e) ρ S) Pn Pr ↔ Wp (evE G cal e ρ S) fun d S1 => Oo (setT ρ t d) fun ρ1 => Pn ρ1 S1 := by
  rw [exS, Wo_ofE]
  constructor <;> exact fun h => Wp_mono h fun d S1 z => by first | exact (Wo_map _ _).mp z | exact (Wo_map _ _).mpr z
@[simp] theorem Ws_expr (e : E) : Wo (exS G W cal (.expr e) ρ S) Pn Pr ↔ Wp (evE G cal e ρ S) fun _ S1 => Pn ρ S1 := by
  rw [exS, Wo_ofE]
  constructor <;> exact fun h => Wp_mono h fun d S1 z => by first | exact (Wo_nx _ _).mp z | exact (Wo_nx _ _).mpr z
@[simp] theorem Ws_ret (e : E) : Wo (exS G W cal (.ret e) ρ S) Pn Pr ↔ Wp (evE G cal e ρ S) Pr := by
  rw [exS, Wo_ofE]
  constructor <;> exact fun h => Wp_mono h fun d S1 z => by first | exact (Wo_rt _ _).mp z | exact (Wo_rt _ _).mpr z
@[simp] theorem Ws_ite (c : E) (a b : List Sm) : Wo (exS G W cal (.ite c a b) ρ S) Pn Pr ↔ Wp (tst (evE G cal c ρ S)) fun t S1 => if t = true then Wo (exSs G W cal a ρ S1) Pn Pr else Wo (exSs G W cal b ρ S1) Pn Pr := by
  rw [exS]
  cases tst (evE G cal c ρ S) with
  | none => exact ⟨fun h => (Wo_none.mp h).elim, fun h => (Wp_none.mp h).elim⟩
  | some r =>
    cases r with
    | ok t S1 =>
      rw [Wp_ok]
      cases t
      · rw [if_neg Bool.false_ne_true]
      · rw [if_pos rfl]
    | ex k v S1 => exact ⟨fun h => (Wo_exn _ _ _ |>.mp h).elim, fun h => (Wp_ex _ _ _ |>.mp h).elim⟩
@[simp] theorem Ws_for (t : Tg) (k : Ik) (its : List E) (body : List Sm) : Wo (exS G W cal (.for_ t k its body) ρ S) Pn Pr ↔ Wp (evEs G cal its ρ S) fun ds S1 => Oo (itD S1 k ds) fun q => Wo (forGo t (fun ρ S => exSs G W cal body ρ S) (still q.2 q.1) q.1 ρ S1) Pn Pr := by
  rw [exS]
  cases evEs G cal its ρ S with
  | none => exact ⟨fun h => (Wo_none.mp h).elim, fun h => (Wp_none.mp h).elim⟩
  | some r =>
    cases r with
    | ok ds S1 =>
      rw [Wp_ok, Oo_ex]
      dsimp only
      cases itD S1 k ds with
      | none => exact ⟨fun h => (Wo_none.mp h).elim, fun ⟨q, e, _⟩ => (by cases e)⟩
      | some q => exact ⟨fun h => ⟨q, rfl, h⟩, fun ⟨p, e, h⟩ => by cases e; exact h⟩
    | ex k v S1 => exact ⟨fun h => (Wo_exn _ _ _ |>.mp h).elim, fun h => (Wp_ex _ _ _ |>.mp h).elim⟩
/-- a for loop, by an invariant over what is left -/
theorem W_forGo {t : Tg} {body : Loc → Sto → Option O} {ok : Sto → Bool} (J : List D → Loc → Sto → Prop) (step : ∀ x xs ρ S, J (x :: xs) ρ S → ∃ ρ1, setT ρ t x = some ρ1 ∧ Wo (body ρ1 S) (fun ρ2 S2 => ok S2 = true ∧ J xs ρ2 S2) Pr) (hd : ∀ ρ S, J [] ρ S → Pn ρ S) :
    ∀ (xs : List D) (ρ : Loc) (S : Sto), J xs ρ S → Wo (forGo t body ok xs ρ S) Pn Pr
  | [], ρ, S, h => by rw [forGo, Wo_nx]; exact hd ρ S h
  | x :: xs, ρ, S, h => by
    obtain ⟨ρ1, e1, h1⟩ := step x xs ρ S h
    rw [forGo, e1]
    simp only [Option.bind_some]
    rcases h1 with ⟨ρ2, S2, e, h2, h3⟩ | ⟨d, S2, e, h2⟩
    · rw [e]
      show Wo (if ok S2 = true then forGo t body ok xs ρ2 S2 else none) Pn Pr
      rw [if_pos h2]
      exact W_forGo J step hd xs ρ2 S2 h3
    · rw [e]
      exact .inr ⟨d, S2, rfl, h2⟩
/-- a while loop, by an invariant with a count of the turns that are left -/
theorem W_whl {cond : Loc → Sto → Option (R Bool)} {body : Loc → Sto → Option O} (J : Nat → Loc → Sto → Prop) (step : ∀ k ρ S, J k ρ S → Wp (cond ρ S) fun b S1 => if b = true then 0 < k ∧ Wo (body ρ S1) (fun ρ2 S2 => ∃ j, j < k ∧ J j ρ2 S2) Pr else Pn ρ S1) :
    ∀ (n : Nat) (k : Nat) (ρ : Loc) (S : Sto), k < n → J k ρ S → Wo (whlGo cond body n ρ S) Pn Pr
  | 0, k, ρ, S, hk, _ => absurd hk (Nat.not_lt_zero k)
  | n + 1, k, ρ, S, hk, h => by
    obtain ⟨b, S1, e, h1⟩ := step k ρ S h
    rw [whlGo, e]
    cases b with
    | false =>
      rw [if_neg Bool.false_ne_true] at h1
      exact .inl ⟨ρ, S1, rfl, h1⟩
    | true =>
      rw [if_pos rfl] at h1
      rcases h1.2 with ⟨ρ2, S2, e2, j, hj, h2⟩ | ⟨d, S2, e2, h2⟩
      · simp only [e2]
        exact W_whl J step n j ρ2 S2 (by omega) h2
      · simp only [e2]
        exact .inr ⟨d, S2, rfl, h2⟩
theorem Ws_whl (c : E) (body : List Sm) : exS G W cal (.whl c body) ρ S = whlGo (fun ρ S => tst (evE G cal c ρ S)) (fun ρ S => exSs G W cal body ρ S) W ρ S := by rw [exS]
/-- a call -/
theorem Wp_call {T : List Fd} {n f : Nat} {F : Fd} {ds : List D} {P : D → Sto → Prop} (hT : T[f]? = some F) (hl : ds.length = F.np) (h : Wo (exSs G W (calF G W T n) F.body (ds.map some ++ List.replicate (F.ns - ds.length) none) S) (fun _ S1 => P .non S1) P) : Wp (calF G W T (n + 1) f ds S) P := by
  rw [calF, hT]
  dsimp only
  rw [if_pos hl]
  rcases h with ⟨a, b, e, h⟩ | ⟨a, b, e, h⟩
  · rw [e]; exact ⟨_, _, rfl, h⟩
  · rw [e]; exact ⟨_, _, rfl, h⟩
/-! ### comprehensions -/
theorem W_comp {cond : D → Sto → Option (R Bool)} {elt : D → Sto → Option (R D)} {ok : Sto → Bool} {P : List D → Sto → Prop} (J : List D → List D → Sto → Prop)
    (step : ∀ x xs ds S, J (x :: xs) ds S → Wp (cond x S) fun b S1 => if b = true then Wp (elt x S1) fun d S2 => ok S2 = true ∧ J xs (ds ++ [d]) S2 else ok S1 = true ∧ J xs ds S1) :
    ∀ (xs ds : List D) (S : Sto), J xs ds S → (∀ ys S', J [] ys S' → P ys S') → Wp (compGo cond elt ok xs S) fun ys S' => P (ds ++ ys) S'
  | [], ds, S, h, hd => by
    rw [compGo, Wp_ok, List.append_nil]
    exact hd ds S h
  | x :: xs, ds, S, h, hd => by
    have z := step x xs ds S h
    rw [compGo, Wp_bnd]
    refine Wp_mono z fun b S1 h1 => ?_
    cases b with
    | false =>
      rw [if_neg Bool.false_ne_true] at h1 ⊢
      rw [if_pos h1.1]
      exact W_comp J step xs ds S1 h1.2 hd
    | true =>
      rw [if_pos rfl] at h1 ⊢
      rw [Wp_bnd]
      refine Wp_mono h1 fun d S2 h2 => ?_
      rw [if_pos h2.1, Wp_bnd]
      refine Wp_mono (W_comp J step xs (ds ++ [d]) S2 h2.2 hd) fun ys S' h3 => ?_
      rw [Wp_ok]
      rw [List.append_assoc] at h3
      exact h3
/-- nothing of the store is touched: a plain filter and map -/
theorem W_pure {cond : D → Sto → Option (R Bool)} {elt : D → Sto → Option (R D)} {ok : Sto → Bool} {P : List D → Sto → Prop} {xs : List D} (p : D → Bool) (f : D → D) (ho : ok S = true)
    (hc : ∀ x ∈ xs, cond x S = some (.ok (p x) S)) (he : ∀ x ∈ xs, p x = true → elt x S = some (.ok (f x) S)) (h : P ((xs.filter p).map f) S) : Wp (compGo cond elt ok xs S) P := by
  have key : ∀ l : List D, (∀ x ∈ l, x ∈ xs) → compGo cond elt ok l S = some (.ok ((l.filter p).map f) S) := by
    intro l
    induction l with
    | nil => intro _; rfl
    | cons x l ih =>
      intro hl
      have ih := ih fun y hy => hl y (List.mem_cons_of_mem _ hy)
      have hx := hl x List.mem_cons_self
      rw [compGo, hc x hx, bnd_ok]
      cases hp : p x with
      | false =>
        rw [if_neg Bool.false_ne_true, if_pos ho, ih, List.filter_cons_of_neg (by rw [hp]; exact Bool.false_ne_true)]
      | true =>
        rw [if_pos rfl, he x hx hp, bnd_ok, if_pos ho, ih, bnd_ok, List.filter_cons_of_pos hp, List.map_cons]
  rw [key xs fun _ h => h, Wp_ok]
  exact h
theorem W_plain {cond : D → Sto → Option (R Bool)} {elt : D → Sto → Option (R D)} {ok : Sto → Bool} {S : Sto} {P : List D → Sto → Prop} {xs : List D} (p : D → Bool) (f : D → D) (ho : ok S = true)
    (hc : ∀ x ∈ xs, Wp (cond x S) fun b S' => b = p x ∧ S' = S) (he : ∀ x ∈ xs, p x = true → Wp (elt x S) fun d S' => d = f x ∧ S' = S) (h : P ((xs.filter p).map f) S) : Wp (compGo cond elt ok xs S) P :=
  W_pure p f ho (fun x hx => by obtain ⟨b, S', e, e1, e2⟩ := hc x hx; rw [e, e1, e2]) (fun x hx hp => by obtain ⟨b, S', e, e1, e2⟩ := he x hx hp; rw [e, e1, e2]) h
theorem Wp_lc (vs : List Nat) (t : Tg) (k : Ik) (its cs : List E) (elt : E) {P : D → Sto → Prop} : Wp (evE G cal (.lc vs t k its cs elt) ρ S) P ↔ Wp (evEs G cal its ρ S) fun ds S1 => Oo (itD S1 k ds) fun q =>
    Wp (compGo (fun x S2 => (setT (wipeD ρ vs) t x).bind fun ρ' => evTs G cal cs ρ' S2) (fun x S2 => (setT (wipeD ρ vs) t x).bind fun ρ' => evE G cal elt ρ' S2) (still q.2 q.1) q.1 S1) fun ys S3 => ys.length ≤ sizeLine ∧ P (.ref S3.length) (S3 ++ [.lst ys]) := by
  rw [evE, Wp_bnd]
  have key : ∀ ds S1, Wp (match itD S1 k ds with
      | some (xs, g) => bnd (noX (compGo (fun x S2 => (setT (wipeD ρ vs) t x).bind fun ρ' => evTs G cal cs ρ' S2) (fun x S2 => (setT (wipeD ρ vs) t x).bind fun ρ' => evE G cal elt ρ' S2) (still g xs) xs S1)) fun ys S3 => if ys.length ≤ sizeLine then some (R.ok (D.ref S3.length) (S3 ++ [.lst ys])) else none
      | none => none) P ↔ Oo (itD S1 k ds) fun q => Wp (compGo (fun x S2 => (setT (wipeD ρ vs) t x).bind fun ρ' => evTs G cal cs ρ' S2) (fun x S2 => (setT (wipeD ρ vs) t x).bind fun ρ' => evE G cal elt ρ' S2) (still q.2 q.1) q.1 S1) fun ys S3 => ys.length ≤ sizeLine ∧ P (.ref S3.length) (S3 ++ [.lst ys]) := by
    intro ds S1
    rw [Oo_ex]
    cases itD S1 k ds with
    | none => exact ⟨fun h => (Wp_none.mp h).elim, fun ⟨q, e, _⟩ => (by cases e)⟩
    | some q =>
      obtain ⟨xs, g⟩ := q
      dsimp only
      rw [Wp_bnd, Wp_noX]
      constructor
      · intro h
        refine ⟨_, rfl, Wp_mono h fun ys S3 z => ?_⟩
        rw [Wp_if, Wp_ok] at z
        exact z
      · rintro ⟨q, e, h⟩
        cases e
        refine Wp_mono h fun ys S3 z => ?_
        rw [Wp_if, Wp_ok]
        exact z
  constructor <;> exact fun h => Wp_mono h fun ds S1 z => by first | exact (key ds S1).mp z | exact (key ds S1).mpr z
end
section
variable {G : List D} {W : Nat} {cal : Cal} {ρ : Loc} {S : Sto}
@[simp] theorem ev_var (i : Nat) : evE G cal (.var i) ρ S = match ρ[i]? with
    | some (some d) => some (.ok d S)
    | _ => none := by rw [evE] <;> rfl
@[simp] theorem ev_lit (d : D) : evE G cal (.lit d) ρ S = some (.ok d S) := by rw [evE]
@[simp] theorem ev_glb (k : Nat) : evE G cal (.glb k) ρ S = match G[k]? with
    | some d => some (.ok d S)
    | none => none := by rw [evE] <;> rfl
@[simp] theorem ev_tup (es : List E) : evE G cal (.tup es) ρ S = bnd (evEs G cal es ρ S) fun ds S1 => if ds.length ≤ sizeLine then some (.ok (.tup ds) S1) else none := by rw [evE]
@[simp] theorem ev_lst (es : List E) : evE G cal (.lst es) ρ S = bnd (evEs G cal es ρ S) fun ds S1 => if ds.length ≤ sizeLine then some (.ok (.ref S1.length) (S1 ++ [.lst ds])) else none := by rw [evE]
@[simp] theorem ev_dic (ks : List Str) (es : List E) : evE G cal (.dic ks es) ρ S = bnd (evEs G cal es ρ S) fun ds S1 => some (.ok (.ref S1.length) (S1 ++ [.dct ((ks.map Sum.inr).zip ds)])) := by rw [evE]
@[simp] theorem ev_op (o : Op2) (a b : E) : evE G cal (.op o a b) ρ S = bnd (evE G cal a ρ S) fun x S1 => bnd (evE G cal b ρ S1) fun y S2 => lift2 (opD S2 o x y) := by rw [evE]
/-- less than nothing -/
def negD : D → Option D
  | .int i => some (.int (-i))
  | _ => none
@[simp] theorem negD_int (i : Int) : negD (.int i) = some (.int (-i)) := rfl
@[simp] theorem ev_neg (a : E) : evE G cal (.neg a) ρ S = bnd (evE G cal a ρ S) fun x S1 => (negD x).map fun r => .ok r S1 := by
  rw [evE]
  congr 1
  funext x S1
  cases x <;> rfl
@[simp] theorem ev_cmp (c : Cm) (a b : E) : evE G cal (.cmp c a b) ρ S = bnd (evE G cal a ρ S) fun x S1 => bnd (evE G cal b ρ S1) fun y S2 => (cmpD S2 c x y).map fun r => .ok (.bl r) S2 := by rw [evE]
@[simp] theorem ev_and (es : List E) : evE G cal (.and es) ρ S = evAnd G cal es ρ S := by rw [evE]
@[simp] theorem ev_or (es : List E) : evE G cal (.or es) ρ S = evOr G cal es ρ S := by rw [evE]
@[simp] theorem ev_not (a : E) : evE G cal (.not a) ρ S = bnd (tst (evE G cal a ρ S)) fun b S1 => some (.ok (.bl (!b)) S1) := by rw [evE]
@[simp] theorem ev_ite (c a b : E) {P : D → Sto → Prop} : Wp (evE G cal (.ite c a b) ρ S) P ↔ Wp (tst (evE G cal c ρ S)) fun t S1 => if t = true then Wp (evE G cal a ρ S1) P else Wp (evE G cal b ρ S1) P := by
  rw [evE, Wp_bnd]
  constructor <;> exact fun h => Wp_mono h fun t S1 z => by cases t <;> simpa using z
@[simp] theorem ev_ix (a b : E) : evE G cal (.ix a b) ρ S = bnd (evE G cal a ρ S) fun x S1 => bnd (evE G cal b ρ S1) fun y S2 => (ixD S2 x y).map fun r => .ok r S2 := by rw [evE]
@[simp] theorem ev_slc (a : E) (lo hi : Option E) : evE G cal (.slc a lo hi) ρ S = bnd (evE G cal a ρ S) fun x S1 => bnd (evO G cal lo ρ S1) fun l S2 => bnd (evO G cal hi ρ S2) fun h S3 => lift2 (slcD S3 x l h) := by rw [evE]
@[simp] theorem ev_rev (a : E) : evE G cal (.rev a) ρ S = bnd (evE G cal a ρ S) fun x S1 => lift2 (revD S1 x) := by rw [evE]
@[simp] theorem ev_call (f : Nat) (es : List E) : evE G cal (.call f es) ρ S = bnd (evEs G cal es ρ S) fun ds S1 => cal f ds S1 := by rw [evE]
@[simp] theorem ev_bi (b : Bi) (es : List E) : evE G cal (.bi b es) ρ S = bnd (evEs G cal es ρ S) fun ds S1 => lift2 (biD S1 b ds) := by rw [evE]
@[simp] theorem ev_ext (a b : E) : evE G cal (.ext a b) ρ S = bnd (evE G cal a ρ S) fun x S1 => if isL S1 x = true then bnd (evE G cal b ρ S1) fun y S2 => extD S2 x y else none := by rw [evE]
@[simp] theorem ev_app (a b : E) : evE G cal (.app a b) ρ S = bnd (evE G cal a ρ S) fun x S1 => if isL S1 x = true then bnd (evE G cal b ρ S1) fun y S2 => appD S2 x y else none := by rw [evE]
@[simp] theorem evs_nil : evEs G cal [] ρ S = some (.ok [] S) := by rw [evEs]
@[simp] theorem evs_cons (e : E) (es : List E) : evEs G cal (e :: es) ρ S = bnd (evE G cal e ρ S) fun d S1 => bnd (evEs G cal es ρ S1) fun ds S2 => some (.ok (d :: ds) S2) := by rw [evEs]
@[simp] theorem eva_one (e : E) : evAnd G cal [e] ρ S = bnd (tst (evE G cal e ρ S)) fun b S1 => some (.ok (.bl b) S1) := by simp only [evAnd]
@[simp] theorem eva_more (e e' : E) (es : List E) {P : D → Sto → Prop} : Wp (evAnd G cal (e :: e' :: es) ρ S) P ↔ Wp (tst (evE G cal e ρ S)) fun b S1 => if b = true then Wp (evAnd G cal (e' :: es) ρ S1) P else P (.bl false) S1 := by
  rw [evAnd, Wp_bnd]
  constructor <;> exact fun h => Wp_mono h fun t S1 z => by cases t <;> simpa using z
@[simp] theorem evo_one (e : E) : evOr G cal [e] ρ S = bnd (tst (evE G cal e ρ S)) fun b S1 => some (.ok (.bl b) S1) := by simp only [evOr]
@[simp] theorem evo_more (e e' : E) (es : List E) {P : D → Sto → Prop} : Wp (evOr G cal (e :: e' :: es) ρ S) P ↔ Wp (tst (evE G cal e ρ S)) fun b S1 => if b = true then P (.bl true) S1 else Wp (evOr G cal (e' :: es) ρ S1) P := by
  rw [evOr, Wp_bnd]
  constructor <;> exact fun h => Wp_mono h fun t S1 z => by cases t <;> simpa using z
@[simp] theorem evt_nil : evTs G cal [] ρ S = some (.ok true S) := by rw [evTs]
@[simp] theorem evt_cons (e : E) (es : List E) {P : Bool → Sto → Prop} : Wp (evTs G cal (e :: es) ρ S) P ↔ Wp (tst (evE G cal e ρ S)) fun b S1 => if b = true then Wp (evTs G cal es ρ S1) P else P false S1 := by
  rw [evTs, Wp_bnd]
  constructor <;> exact fun h => Wp_mono h fun t S1 z => by cases t <;> simpa using z
@[simp] theorem evp_none : evO G cal none ρ S = some (.ok none S) := by rw [evO]
@[simp] theorem evp_some (e : E) {P : Option Int → Sto → Prop} : Wp (evO G cal (some e) ρ S) P ↔ Wp (evE G cal e ρ S) fun d S1 => IsI d fun i => P (some i) S1 := by
  simp only [IsI_ex]
  rw [evO, Wp_bnd]
  constructor
  · refine fun h => Wp_mono h fun d S1 z => ?_
    cases d <;> first | (simp at z; done) | skip
    exact ⟨_, rfl, by simpa using z⟩
  · refine fun h => Wp_mono h fun d S1 z => ?_
    obtain ⟨i, rfl, z⟩ := z
    simpa using z
@[simp] theorem ev_chain (c1 c2 : Cm) (a b c : E) {P : D → Sto → Prop} : Wp (evE G cal (.chain c1 c2 a b c) ρ S) P ↔ Wp (evE G cal a ρ S) fun x S1 => Wp (evE G cal b ρ S1) fun y S2 => Oo (cmpD S2 c1 x y) fun t => if t = true then Wp (evE G cal c ρ S2) fun z S3 => Oo (cmpD S3 c2 y z) fun r => P (.bl r) S3 else P (.bl false) S2 := by
  rw [evE, Wp_bnd]
  have key : ∀ x y S2, Wp (match cmpD S2 c1 x y with
      | some true => bnd (evE G cal c ρ S2) fun z S3 => (cmpD S3 c2 y z).map fun r => R.ok (.bl r) S3
      | some false => some (.ok (.bl false) S2)
      | none => none) P ↔ Oo (cmpD S2 c1 x y) fun t => if t = true then Wp (evE G cal c ρ S2) fun z S3 => Oo (cmpD S3 c2 y z) fun r => P (.bl r) S3 else P (.bl false) S2 := by
    intro x y S2
    cases cmpD S2 c1 x y with
    | none => simp
    | some t => cases t <;> simp
  constructor
  · refine fun h => Wp_mono h fun x S1 z => ?_
    rw [Wp_bnd] at z
    exact Wp_mono z fun y S2 z => (key x y S2).mp z
  · refine fun h => Wp_mono h fun x S1 z => ?_
    rw [Wp_bnd]
    exact Wp_mono z fun y S2 z => (key x y S2).mpr z
@[simp] theorem ov_add (i j : Int) : opD S .add (.int i) (.int j) = some (.int (i + j), S) := rfl
@[simp] theorem ov_sub (i j : Int) : opD S .sub (.int i) (.int j) = some (.int (i - j), S) := rfl
@[simp] theorem ov_mul (i j : Int) : opD S .mul (.int i) (.int j) = if mulOk i j then some (.int (i * j), S) else none := by
  by_cases h : mulOk i j
  · rw [if_pos h]; exact if_pos h
  · rw [if_neg h]; exact if_neg h
def fdOk (j : Int) : Prop := 0 < j ∧ j < 2 ^ 4096
instance (j : Int) : Decidable (fdOk j) := by unfold fdOk; exact inferInstance
theorem fdOk_of {j : Int} (h : 0 < j) (h2 : j < 2 ^ 64) : fdOk j := ⟨h, Int.lt_trans h2 (by decide)⟩
@[simp] theorem ov_fdiv (i j : Int) : opD S .fdiv (.int i) (.int j) = if fdOk j then some (.int (i / j), S) else none := by
  by_cases h : fdOk j
  · rw [if_pos h]; exact if_pos h
  · rw [if_neg h]; exact if_neg h
@[simp] theorem ov_mod (i j : Int) : opD S .mod (.int i) (.int j) = if 0 < j then some (.int (i % j), S) else none := rfl
@[simp] theorem ov_pow (i j : Int) : opD S .pow (.int i) (.int j) = if powOk i j then some (.int (i ^ j.toNat), S) else none := by
  by_cases h : powOk i j
  · rw [if_pos h]; exact if_pos h
  · rw [if_neg h]; exact if_neg h
@[simp] theorem cv_lt (i j : Int) : cmpD S .lt (.int i) (.int j) = some (decide (i < j)) := rfl
@[simp] theorem cv_le (i j : Int) : cmpD S .le (.int i) (.int j) = some (decide (i ≤ j)) := rfl
@[simp] theorem cv_gt (i j : Int) : cmpD S .gt (.int i) (.int j) = some (decide (j < i)) := rfl
@[simp] theorem cv_ge (i j : Int) : cmpD S .ge (.int i) (.int j) = some (decide (j ≤ i)) := rfl
@[simp] theorem cv_isN (x : D) : cmpD S .isN x .non = some (isNonD x) := by cases x <;> rfl
@[simp] theorem cv_notN (x : D) : cmpD S .notN x .non = some (!isNonD x) := by cases x <;> rfl
@[simp] theorem bv_int (i : Int) : biD S .int [.int i] = some (.int i, S) := rfl
@[simp] theorem bv_bl (b : Bool) : biD S .int [.bl b] = some (.int (if b then 1 else 0), S) := rfl
@[simp] theorem bv_abs (i : Int) : biD S .abs [.int i] = some (.int (if i < 0 then -i else i), S) := rfl
@[simp] theorem bv_min (i j : Int) : biD S .min2 [.int i, .int j] = some (.int (if j < i then j else i), S) := rfl
@[simp] theorem bv_max (i j : Int) : biD S .max2 [.int i, .int j] = some (.int (if j > i then j else i), S) := rfl
@[simp] theorem bv_isi (t : String) (x : D) : biD S (.isi t) [x] = (isiD S t x).map fun b => (.bl b, S) := rfl
@[simp] theorem bv_repr (x : D) : biD S .repr [x] = (reprD S x).map fun z => (.str z, S) := rfl
@[simp] theorem setT_one (ρ : Loc) (i : Nat) (d : D) : setT ρ (.one i) d = some (ρ.set i (some d)) := rfl
@[simp] theorem setT_two (ρ : Loc) (i j : Nat) (x y : D) : setT ρ (.tup [i, j]) (.tup [x, y]) = some ((ρ.set i (some x)).set j (some y)) := rfl
end
end Mi

end
section
set_option Elab.async false
set_option linter.all false
set_option maxRecDepth 100000
set_option maxHeartbeats 1000000
/-! repr tells its value: plain data of equal text are equal. -/
namespace Mi
open PySem PySem.Spec
/-- a text that repr only quotes -/
def plainC (c : Nat) : Bool := decide (32 ≤ c) && decide (c ≤ 126) && !(c == 39) && !(c == 92)
def plainS (x : Str) : Bool := x.cps.toList.all plainC
mutual
def Pl : PyData → Bool
  | .none => true
  | .bool _ => true
  | .int _ => true
  | .str x => plainS x
  | .list xs => Pls xs
  | .tuple xs => Pls xs
  | .dict kvs => PlKv kvs
def Pls : List PyData → Bool
  | [] => true
  | x :: xs => Pl x && Pls xs
def PlKv : List (PyData × PyData) → Bool
  | [] => true
  | (k, v) :: r => Pl k && Pl v && PlKv r
end
def sh (p : PyData) : List Nat := TL.tl p.shown
/-! ### joins -/
def jn : List (List Nat) → List Nat
  | [] => []
  | [x] => x
  | x :: y :: r => x ++ 44 :: 32 :: jn (y :: r)
theorem tl_sep : TL.tl ((", " : String) : Str) = [44, 32] := by rw [TL.tl_ofString]; rfl
theorem tl_join : ∀ ts : List Str, TL.tl (Str.join ", " ts) = jn (ts.map TL.tl)
  | [] => rfl
  | [x] => rfl
  | x :: y :: r => by
    show TL.tl (x ++ ", " ++ Str.join ", " (y :: r)) = _
    rw [TL.tl_append, TL.tl_append, tl_sep, tl_join (y :: r)]
    simp [jn]
theorem tl_from : ∀ (ts : List Str) (k : Nat) (acc : Str), TL.tl (textFrom (k + 1) acc ts) = TL.tl acc ++ (ts.map fun t => 44 :: 32 :: TL.tl t).flatten
  | [], k, acc => by simp [textFrom]
  | t :: r, k, acc => by
    show TL.tl (textFrom (k + 1 + 1) (acc ++ (if k + 1 > 0 then ", " else "" : String) ++ t) r) = _
    rw [tl_from r (k + 1), TL.tl_append, TL.tl_append, if_pos (by omega), tl_sep]
    simp
theorem jn_flat : ∀ (x : List Nat) (r : List (List Nat)), jn (x :: r) = x ++ (r.map fun t => 44 :: 32 :: t).flatten
  | x, [] => by simp [jn]
  | x, y :: r => by
    rw [jn, jn_flat y r]
    simp
theorem sh_list (xs : List PyData) : sh (.list xs) = 91 :: (jn (xs.map sh) ++ [93]) := by
  have e : PyData.shownAll xs = xs.map PyData.shown := by
    induction xs with
    | nil => rfl
    | cons x r ih => rw [PyData.shownAll, ih, List.map_cons]
  unfold sh
  rw [PyData.shown, e]
  unfold listText
  rw [TL.tl_append]
  have e2 : TL.tl ((("]" : String) : Str)) = [93] := by rw [TL.tl_ofString]; rfl
  have e3 : TL.tl ((("[" : String) : Str)) = [91] := by rw [TL.tl_ofString]; rfl
  rw [e2]
  cases xs with
  | nil => simp [textFrom, e3, jn]
  | cons x r =>
    show TL.tl (textFrom (0 + 1) (("[" : Str) ++ (if 0 > 0 then ", " else "" : String) ++ x.shown) (r.map PyData.shown)) ++ [93] = _
    have e4 : TL.tl (((if 0 > 0 then ", " else "" : String)) : Str) = [] := by rw [TL.tl_ofString]; rfl
    rw [tl_from, TL.tl_append, TL.tl_append, e4, e3, List.map_cons, jn_flat]
    simp [List.map_map, Function.comp_def]
theorem sh_tuple (xs : List PyData) : sh (.tuple xs) = 40 :: (jn (xs.map sh) ++ (if xs.length == 1 then [44, 41] else [41])) := by
  have e : PyData.shownAll xs = xs.map PyData.shown := by
    induction xs with
    | nil => rfl
    | cons x r ih => rw [PyData.shownAll, ih, List.map_cons]
  unfold sh
  rw [PyData.shown, e]
  unfold tupleText
  rw [TL.tl_append, TL.tl_append, tl_join, List.map_map, List.length_map]
  have e2 : TL.tl ((("(" : String) : Str)) = [40] := by rw [TL.tl_ofString]; rfl
  rw [e2, TL.tl_ofString]
  cases h : (xs.length == 1) <;> simp [Function.comp_def] <;> rfl
theorem sh_dict (kvs : List (PyData × PyData)) : sh (.dict kvs) = 123 :: (jn (kvs.map fun q => sh q.1 ++ 58 :: 32 :: sh q.2) ++ [125]) := by
  have e : PyData.shownKv kvs = kvs.map fun q => ((q.1.shown ++ (": " : Str) ++ q.2.shown : Str)) := by
    induction kvs with
    | nil => rfl
    | cons x r ih =>
      obtain ⟨k, v⟩ := x
      rw [PyData.shownKv, ih, List.map_cons]
  have e1 : TL.tl (((": " : String) : Str)) = [58, 32] := by rw [TL.tl_ofString]; rfl
  unfold sh
  rw [PyData.shown, e]
  unfold dictText
  rw [TL.tl_append, TL.tl_append, tl_join, List.map_map]
  have e2 : TL.tl ((("{" : String) : Str)) = [123] := by rw [TL.tl_ofString]; rfl
  have e3 : TL.tl ((("}" : String) : Str)) = [125] := by rw [TL.tl_ofString]; rfl
  rw [e2, e3]
  have e4 : (TL.tl ∘ fun q : PyData × PyData => ((q.1.shown ++ (": " : Str) ++ q.2.shown : Str))) = fun q => TL.tl q.1.shown ++ 58 :: 32 :: TL.tl q.2.shown := by
    funext q
    show TL.tl (q.1.shown ++ (": " : Str) ++ q.2.shown) = _
    rw [TL.tl_append, TL.tl_append, e1]
    simp
  rw [e4]
  simp
/-! ### texts -/
theorem rep_plain {c : Nat} (h : plainC c = true) : Builtin.Str.reprChar 39 c = [c] := by
  unfold plainC at h
  simp only [Bool.and_eq_true, decide_eq_true_eq, Bool.not_eq_true', beq_eq_false_iff_ne] at h
  obtain ⟨⟨⟨h1, h2⟩, h3⟩, h4⟩ := h
  have hp : Unicode.isPrintable c = true := by
    rw [PyProof.Rows.cls_isprintable c (by omega)]
    have key : ∀ c, c < 127 → 32 ≤ c → PyProof.Rows.inR 32 126 ⟨#[c]⟩ = true := by decide +kernel
    exact key c (by omega) h1
  unfold Builtin.Str.reprChar
  have a1 : (c == 39 || c == 92) = false := by simp [h3, h4]
  have a2 : (c == 10) = false := by simp; omega
  have a3 : (c == 13) = false := by simp; omega
  have a4 : (c == 9) = false := by simp; omega
  simp only [a1, a2, a3, a4, hp, if_true, Bool.false_eq_true, if_false]
theorem fold_plain : ∀ (l : List Nat) (acc : Array Nat), l.all plainC = true → (l.foldl (fun out c => out ++ (Builtin.Str.reprChar 39 c).toArray) acc) = acc ++ l.toArray
  | [], acc, _ => by simp
  | c :: r, acc, h => by
    simp only [List.all_cons, Bool.and_eq_true] at h
    rw [List.foldl_cons, rep_plain h.1, fold_plain r _ h.2]
    simp
theorem sh_str {x : Str} (h : plainS x = true) : sh (.str x) = 39 :: (x.cps.toList ++ [39]) := by
  unfold plainS at h
  have hq : reprQuote x = 39 := by
    unfold reprQuote
    have : x.cps.contains 39 = false := by
      rw [← Array.contains_toList]
      refine Bool.eq_false_iff.mpr fun z => ?_
      have hm := List.contains_iff_mem.mp z
      have := List.all_eq_true.mp h 39 hm
      exact absurd this (by decide)
    rw [this]
    rfl
  unfold sh
  rw [PyData.shown]
  unfold reprText
  rw [hq]
  show ((x.cps.foldl (fun out c => out ++ (Builtin.Str.reprChar 39 c).toArray) #[39]).push 39).toList = _
  rw [← Array.foldl_toList, fold_plain _ _ h]
  simp
/-! ### numbers -/
def isD (c : Nat) : Prop := 48 ≤ c ∧ c ≤ 57
theorem sh_nat (m : Nat) : sh (.int (m : Int)) = (Nat.toDigits 10 m).map Char.toNat := by
  unfold sh
  rw [PyData.shown]
  exact PySem.W.KIN.signs_num m
theorem sh_neg (m : Nat) : sh (.int (Int.negSucc m)) = 45 :: (Nat.toDigits 10 (m + 1)).map Char.toNat := by
  unfold sh
  rw [PyData.shown, TL.tl_ofString]
  have e : (toString (Int.negSucc m)) = "-" ++ Nat.repr (m + 1) := rfl
  rw [e, String.toList_append, List.map_append, Nat.toList_repr]
  rfl
theorem digs_isD (m : Nat) : ∀ c ∈ (Nat.toDigits 10 m).map Char.toNat, isD c := by
  intro c hc
  obtain ⟨ch, hch, e⟩ := List.mem_map.mp hc
  have r := PyProof.Rows.digit_range (Nat.isDigit_of_mem_toDigits (by decide) (by decide) hch)
  rw [← e]
  exact r
theorem digs_ne (m : Nat) : (Nat.toDigits 10 m).map Char.toNat ≠ [] := by
  intro e
  have h := PySem.toDigits_len_ge 10 m
  rw [List.map_eq_nil_iff.mp e] at h
  exact absurd h (by decide)
theorem digs_inj {m n : Nat} (h : (Nat.toDigits 10 m).map Char.toNat = (Nat.toDigits 10 n).map Char.toNat) : m = n := by
  rw [← PySem.W.KIN.val_back m, ← PySem.W.KIN.val_back n, h]
/-! ### where a value ends -/
def stopC (c : Nat) : Prop := c = 44 ∨ c = 41 ∨ c = 93 ∨ c = 125 ∨ c = 58
def Stop : List Nat → Prop
  | [] => True
  | c :: _ => stopC c
theorem dig_split : ∀ {a b r s : List Nat}, (∀ c ∈ a, isD c) → (∀ c ∈ b, isD c) → Stop r → Stop s → a ++ r = b ++ s → a = b ∧ r = s
  | [], [], _, _, _, _, _, _, h => ⟨rfl, h⟩
  | [], d :: b, r, s, _, hb, hr, _, h => by
    have h : r = d :: (b ++ s) := h
    subst h
    have h1 := hb d List.mem_cons_self
    have h2 : stopC d := hr
    unfold isD at h1
    unfold stopC at h2
    omega
  | c :: a, [], r, s, ha, _, _, hs, h => by
    have h : c :: (a ++ r) = s := h
    subst h
    have h1 := ha c List.mem_cons_self
    have h2 : stopC c := hs
    unfold isD at h1
    unfold stopC at h2
    omega
  | c :: a, d :: b, r, s, ha, hb, hr, hs, h => by
    have h : c :: (a ++ r) = d :: (b ++ s) := h
    injection h with h1 h2
    obtain ⟨e1, e2⟩ := dig_split (fun x hx => ha x (List.mem_cons_of_mem _ hx)) (fun x hx => hb x (List.mem_cons_of_mem _ hx)) hr hs h2
    exact ⟨by rw [h1, e1], e2⟩
theorem quo_split : ∀ {a b r s : List Nat}, a.all plainC = true → b.all plainC = true → a ++ 39 :: r = b ++ 39 :: s → a = b ∧ r = s
  | [], [], _, _, _, _, h => by
    injection h with _ h
    exact ⟨rfl, h⟩
  | [], d :: b, r, s, _, hb, h => by
    have h : 39 :: r = d :: (b ++ 39 :: s) := h
    injection h with h1 _
    subst h1
    simp [plainC] at hb
  | c :: a, [], r, s, ha, _, h => by
    have h : c :: (a ++ 39 :: r) = 39 :: s := h
    injection h with h1 _
    subst h1
    simp [plainC] at ha
  | c :: a, d :: b, r, s, ha, hb, h => by
    have h : c :: (a ++ 39 :: r) = d :: (b ++ 39 :: s) := h
    injection h with h1 h2
    simp only [List.all_cons, Bool.and_eq_true] at ha hb
    obtain ⟨e1, e2⟩ := quo_split ha.2 hb.2 h2
    exact ⟨by rw [h1, e1], e2⟩
/-- the first sign tells the kind -/
def kindC : PyData → Nat
  | .none => 0
  | .bool _ => 1
  | .int _ => 2
  | .str _ => 3
  | .list _ => 4
  | .tuple _ => 5
  | .dict _ => 6
def kindOfC (c : Nat) : Nat := if c = 78 then 0 else if c = 84 ∨ c = 70 then 1 else if c = 45 ∨ (48 ≤ c ∧ c ≤ 57) then 2 else if c = 39 then 3 else if c = 91 then 4 else if c = 40 then 5 else if c = 123 then 6 else 7
theorem sh_head : ∀ (p : PyData), Pl p = true → ∃ c t, sh p = c :: t ∧ kindOfC c = kindC p ∧ ¬ stopC c
  | .none, _ => ⟨78, [111, 110, 101], by unfold sh; rw [PyData.shown, TL.tl_ofString]; rfl, rfl, by unfold stopC; omega⟩
  | .bool true, _ => ⟨84, [114, 117, 101], by unfold sh; rw [PyData.shown, if_pos rfl, TL.tl_ofString]; rfl, rfl, by unfold stopC; omega⟩
  | .bool false, _ => ⟨70, [97, 108, 115, 101], by unfold sh; rw [PyData.shown, if_neg Bool.false_ne_true, TL.tl_ofString]; rfl, rfl, by unfold stopC; omega⟩
  | .int (.ofNat m), _ => by
    have h1 := digs_isD m
    have h2 := digs_ne m
    have e := sh_nat m
    cases q : (Nat.toDigits 10 m).map Char.toNat with
    | nil => exact absurd q h2
    | cons c t =>
      rw [q] at h1 e
      have h3 := h1 c List.mem_cons_self
      unfold isD at h3
      refine ⟨c, t, e, ?_, by unfold stopC; omega⟩
      unfold kindOfC kindC
      rw [if_neg (by omega), if_neg (by omega), if_pos (.inr h3)]
  | .int (.negSucc m), _ => ⟨45, _, sh_neg m, rfl, by unfold stopC; omega⟩
  | .str x, h => ⟨39, _, sh_str (by simpa [Pl] using h), rfl, by unfold stopC; omega⟩
  | .list xs, _ => ⟨91, _, sh_list xs, rfl, by unfold stopC; omega⟩
  | .tuple xs, _ => ⟨40, _, sh_tuple xs, rfl, by unfold stopC; omega⟩
  | .dict xs, _ => ⟨123, _, sh_dict xs, rfl, by unfold stopC; omega⟩
end Mi

end
section
set_option Elab.async false
set_option linter.all false
set_option maxRecDepth 100000
set_option maxHeartbeats 1000000
namespace Mi
open PySem PySem.Spec
theorem kind_eq {p q : PyData} (hp : Pl p = true) (hq : Pl q = true) {r s : List Nat} (h : sh p ++ r = sh q ++ s) : kindC p = kindC q := by
  obtain ⟨c, t, e1, k1, _⟩ := sh_head p hp
  obtain ⟨d, u, e2, k2, _⟩ := sh_head q hq
  rw [e1, e2] at h
  have h : c :: (t ++ r) = d :: (u ++ s) := h
  injection h with h1 _
  rw [← k1, ← k2, h1]
theorem stop_cons {c : Nat} (h : stopC c) (r : List Nat) : Stop (c :: r) := h
theorem sh_stop {p : PyData} (h : Pl p = true) {r : List Nat} {k : Nat} {s : List Nat} (hk : stopC k) (e : sh p ++ r = k :: s) : False := by
  obtain ⟨c, t, e1, _, n1⟩ := sh_head p h
  rw [e1] at e
  have e : c :: (t ++ r) = k :: s := e
  injection e with e _
  subst e
  exact n1 hk
theorem jn_cons (x : List Nat) (xs : List (List Nat)) (r : List Nat) : jn (x :: xs) ++ r = x ++ ((xs.map fun t => 44 :: 32 :: t).flatten ++ r) := by
  rw [jn_flat, List.append_assoc]
/-- what follows an item -/
theorem tail_stop {xs : List (List Nat)} {k : Nat} {r : List Nat} (hk : stopC k) : Stop ((xs.map fun t => 44 :: 32 :: t).flatten ++ k :: r) := by
  cases xs with
  | nil => exact hk
  | cons x xs => exact Or.inl rfl
theorem cons_inj2 {a b c d : Nat} {r s : List Nat} (h : a :: b :: r = c :: d :: s) : r = s := by
  injection h with _ h
  injection h
mutual
theorem sh_inj : ∀ (p q : PyData) (r s : List Nat), Pl p = true → Pl q = true → Stop r → Stop s → sh p ++ r = sh q ++ s → p = q ∧ r = s
  | .none, q, r, s, hp, hq, hr, hs, h => by
    have k := kind_eq hp hq h
    cases q <;> first | cases k | skip
    exact ⟨rfl, List.append_cancel_left h⟩
  | .bool a, q, r, s, hp, hq, hr, hs, h => by
    have k := kind_eq hp hq h
    cases q <;> first | cases k | skip
    rename_i b
    have ht : sh (.bool true) = [84, 114, 117, 101] := by unfold sh; rw [PyData.shown, if_pos rfl, TL.tl_ofString]; rfl
    have hf : sh (.bool false) = [70, 97, 108, 115, 101] := by unfold sh; rw [PyData.shown, if_neg Bool.false_ne_true, TL.tl_ofString]; rfl
    cases a <;> cases b
    · exact ⟨rfl, List.append_cancel_left h⟩
    · rw [ht, hf] at h
      exact absurd h (by simp)
    · rw [ht, hf] at h
      exact absurd h (by simp)
    · exact ⟨rfl, List.append_cancel_left h⟩
  | .int i, q, r, s, hp, hq, hr, hs, h => by
    have k := kind_eq hp hq h
    cases q <;> first | cases k | skip
    rename_i j
    cases i with
    | ofNat m =>
      cases j with
      | ofNat n =>
        have h : sh (.int (m : Int)) ++ r = sh (.int (n : Int)) ++ s := h
        rw [sh_nat, sh_nat] at h
        obtain ⟨e1, e2⟩ := dig_split (digs_isD m) (digs_isD n) hr hs h
        rw [digs_inj e1]
        exact ⟨rfl, e2⟩
      | negSucc n =>
        have h : sh (.int (m : Int)) ++ r = sh (.int (Int.negSucc n)) ++ s := h
        rw [sh_nat, sh_neg] at h
        cases q : (Nat.toDigits 10 m).map Char.toNat with
        | nil => exact absurd q (digs_ne m)
        | cons c t =>
          have h3 := digs_isD m c (by rw [q]; exact List.mem_cons_self)
          rw [q] at h
          have h : c :: (t ++ r) = 45 :: _ := h
          injection h with h _
          unfold isD at h3
          omega
    | negSucc m =>
      cases j with
      | ofNat n =>
        have h : sh (.int (Int.negSucc m)) ++ r = sh (.int (n : Int)) ++ s := h
        rw [sh_nat, sh_neg] at h
        cases q : (Nat.toDigits 10 n).map Char.toNat with
        | nil => exact absurd q (digs_ne n)
        | cons c t =>
          have h3 := digs_isD n c (by rw [q]; exact List.mem_cons_self)
          rw [q] at h
          have h : 45 :: _ = c :: (t ++ s) := h
          injection h with h _
          unfold isD at h3
          omega
      | negSucc n =>
        rw [sh_neg, sh_neg] at h
        have h : 45 :: ((Nat.toDigits 10 (m + 1)).map Char.toNat ++ r) = 45 :: ((Nat.toDigits 10 (n + 1)).map Char.toNat ++ s) := h
        injection h with _ h
        obtain ⟨e1, e2⟩ := dig_split (digs_isD (m + 1)) (digs_isD (n + 1)) hr hs h
        have e3 : m = n := Nat.succ.inj (digs_inj e1)
        rw [e3]
        exact ⟨rfl, e2⟩
  | .str x, q, r, s, hp, hq, hr, hs, h => by
    have k := kind_eq hp hq h
    cases q <;> first | cases k | skip
    rename_i y
    have hp : plainS x = true := by simpa [Pl] using hp
    have hq : plainS y = true := by simpa [Pl] using hq
    rw [sh_str hp, sh_str hq] at h
    have h : 39 :: ((x.cps.toList ++ [39]) ++ r) = 39 :: ((y.cps.toList ++ [39]) ++ s) := h
    injection h with _ h
    rw [List.append_assoc, List.append_assoc] at h
    obtain ⟨e1, e2⟩ := quo_split hp hq h
    have e : x = y := TL.ext_tl e1
    rw [e]
    exact ⟨rfl, e2⟩
  | .list xs, q, r, s, hp, hq, hr, hs, h => by
    have k := kind_eq hp hq h
    cases q <;> first | cases k | skip
    rename_i ys
    have hp : Pls xs = true := by simpa [Pl] using hp
    have hq : Pls ys = true := by simpa [Pl] using hq
    rw [sh_list, sh_list] at h
    have h : 91 :: ((jn (xs.map sh) ++ [93]) ++ r) = 91 :: ((jn (ys.map sh) ++ [93]) ++ s) := h
    injection h with _ h
    rw [List.append_assoc, List.append_assoc] at h
    obtain ⟨e1, e2⟩ := shs_inj xs ys 93 r s hp hq (by unfold stopC; omega) (by decide) h
    rw [e1]
    exact ⟨rfl, e2⟩
  | .tuple xs, q, r, s, hp, hq, hr, hs, h => by
    have k := kind_eq hp hq h
    cases q <;> first | cases k | skip
    rename_i ys
    have hp : Pls xs = true := by simpa [Pl] using hp
    have hq : Pls ys = true := by simpa [Pl] using hq
    rw [sh_tuple, sh_tuple] at h
    have h : 40 :: ((jn (xs.map sh) ++ (if xs.length == 1 then [44, 41] else [41])) ++ r) = 40 :: ((jn (ys.map sh) ++ (if ys.length == 1 then [44, 41] else [41])) ++ s) := h
    injection h with _ h
    rw [List.append_assoc, List.append_assoc] at h
    have s41 : stopC 41 := by unfold stopC; omega
    match xs, ys, hp, hq, h with
    | [x], [y], hp, hq, h =>
      simp only [Pls, Bool.and_true] at hp hq
      obtain ⟨e1, e2⟩ := sh_inj x y (44 :: 41 :: r) (44 :: 41 :: s) hp hq (Or.inl rfl) (Or.inl rfl) h
      rw [e1]
      exact ⟨rfl, cons_inj2 e2⟩
    | [x], [], hp, hq, h =>
      exfalso
      simp only [Pls, Bool.and_true] at hp
      exact sh_stop hp s41 (show sh x ++ (44 :: 41 :: r) = 41 :: s from h)
    | [], [y], hp, hq, h =>
      exfalso
      simp only [Pls, Bool.and_true] at hq
      exact sh_stop hq s41 (show sh y ++ (44 :: 41 :: s) = 41 :: r from h.symm)
    | [x], y :: z :: zs, hp, hq, h =>
      exfalso
      simp only [Pls, Bool.and_true, Bool.and_eq_true] at hp hq
      have h : sh x ++ (44 :: 41 :: r) = jn (sh y :: (z :: zs).map sh) ++ 41 :: s := h
      rw [jn_cons] at h
      obtain ⟨e1, e2⟩ := sh_inj x y (44 :: 41 :: r) _ hp hq.1 (Or.inl rfl) (tail_stop s41) h
      have e2 : 44 :: 41 :: r = 44 :: 32 :: _ := e2
      injection e2 with _ e2
      injection e2 with e2 _
      omega
    | x :: z :: zs, [y], hp, hq, h =>
      exfalso
      simp only [Pls, Bool.and_true, Bool.and_eq_true] at hp hq
      have h : jn (sh x :: (z :: zs).map sh) ++ 41 :: r = sh y ++ (44 :: 41 :: s) := h
      rw [jn_cons] at h
      obtain ⟨e1, e2⟩ := sh_inj x y _ (44 :: 41 :: s) hp.1 hq (tail_stop s41) (Or.inl rfl) h
      have e2 : 44 :: 32 :: _ = 44 :: 41 :: s := e2
      injection e2 with _ e2
      injection e2 with e2 _
      omega
    | [], [], hp, hq, h => exact ⟨rfl, by injection h⟩
    | [], y :: z :: zs, hp, hq, h =>
      obtain ⟨e1, e2⟩ := shs_inj [] (y :: z :: zs) 41 r s hp hq s41 (by decide) h
      cases e1
    | x :: z :: zs, [], hp, hq, h =>
      obtain ⟨e1, e2⟩ := shs_inj (x :: z :: zs) [] 41 r s hp hq s41 (by decide) h
      cases e1
    | x :: x2 :: xs, y :: y2 :: ys, hp, hq, h =>
      obtain ⟨e1, e2⟩ := shs_inj (x :: x2 :: xs) (y :: y2 :: ys) 41 r s hp hq s41 (by decide) h
      rw [e1]
      exact ⟨rfl, e2⟩
  | .dict kvs, q, r, s, hp, hq, hr, hs, h => by
    have k := kind_eq hp hq h
    cases q <;> first | cases k | skip
    rename_i ys
    have hp : PlKv kvs = true := by simpa [Pl] using hp
    have hq : PlKv ys = true := by simpa [Pl] using hq
    rw [sh_dict, sh_dict] at h
    have h : 123 :: ((jn (kvs.map fun q => sh q.1 ++ 58 :: 32 :: sh q.2) ++ [125]) ++ r) = 123 :: ((jn (ys.map fun q => sh q.1 ++ 58 :: 32 :: sh q.2) ++ [125]) ++ s) := h
    injection h with _ h
    rw [List.append_assoc, List.append_assoc] at h
    obtain ⟨e1, e2⟩ := kvs_inj kvs ys 125 r s hp hq (by unfold stopC; omega) (by decide) h
    rw [e1]
    exact ⟨rfl, e2⟩
theorem shs_inj : ∀ (xs ys : List PyData) (k : Nat) (r s : List Nat), Pls xs = true → Pls ys = true → stopC k → k ≠ 44 → jn (xs.map sh) ++ k :: r = jn (ys.map sh) ++ k :: s → xs = ys ∧ r = s
  | [], [], k, r, s, hp, hq, hk, hn, h => by
    injection h with _ h
    exact ⟨rfl, h⟩
  | [], y :: ys, k, r, s, hp, hq, hk, hn, h => by
    exfalso
    simp only [Pls, Bool.and_eq_true] at hq
    have h : k :: r = jn (sh y :: ys.map sh) ++ k :: s := h
    rw [jn_cons] at h
    exact sh_stop hq.1 hk h.symm
  | x :: xs, [], k, r, s, hp, hq, hk, hn, h => by
    exfalso
    simp only [Pls, Bool.and_eq_true] at hp
    have h : jn (sh x :: xs.map sh) ++ k :: r = k :: s := h
    rw [jn_cons] at h
    exact sh_stop hp.1 hk h
  | x :: xs, y :: ys, k, r, s, hp, hq, hk, hn, h => by
    simp only [Pls, Bool.and_eq_true] at hp hq
    have h : jn (sh x :: xs.map sh) ++ k :: r = jn (sh y :: ys.map sh) ++ k :: s := h
    rw [jn_cons, jn_cons] at h
    obtain ⟨e1, e2⟩ := sh_inj x y _ _ hp.1 hq.1 (tail_stop hk) (tail_stop hk) h
    cases xs with
    | nil =>
      cases ys with
      | nil =>
        have e2 : k :: r = k :: s := e2
        injection e2 with _ e2
        rw [e1]
        exact ⟨rfl, e2⟩
      | cons y2 ys2 =>
        exfalso
        have e2 : k :: r = 44 :: _ := e2
        injection e2 with e2 _
        exact hn e2
    | cons x2 xs2 =>
      cases ys with
      | nil =>
        exfalso
        have e2 : 44 :: _ = k :: s := e2
        injection e2 with e2 _
        exact hn e2.symm
      | cons y2 ys2 =>
        have e2 : 44 :: 32 :: ((sh x2 ++ ((xs2.map sh).map fun t => 44 :: 32 :: t).flatten) ++ k :: r) = 44 :: 32 :: ((sh y2 ++ ((ys2.map sh).map fun t => 44 :: 32 :: t).flatten) ++ k :: s) := by simpa using e2
        have e3 := cons_inj2 e2
        rw [← jn_flat, ← jn_flat] at e3
        obtain ⟨e4, e5⟩ := shs_inj (x2 :: xs2) (y2 :: ys2) k r s hp.2 hq.2 hk hn e3
        rw [e1, e4]
        exact ⟨rfl, e5⟩
theorem kvs_inj : ∀ (xs ys : List (PyData × PyData)) (k : Nat) (r s : List Nat), PlKv xs = true → PlKv ys = true → stopC k → k ≠ 44 → jn (xs.map fun q => sh q.1 ++ 58 :: 32 :: sh q.2) ++ k :: r = jn (ys.map fun q => sh q.1 ++ 58 :: 32 :: sh q.2) ++ k :: s → xs = ys ∧ r = s
  | [], [], k, r, s, hp, hq, hk, hn, h => by
    injection h with _ h
    exact ⟨rfl, h⟩
  | [], (y, y') :: ys, k, r, s, hp, hq, hk, hn, h => by
    exfalso
    simp only [PlKv, Bool.and_eq_true] at hq
    have h : k :: r = jn ((sh y ++ 58 :: 32 :: sh y') :: ys.map fun q => sh q.1 ++ 58 :: 32 :: sh q.2) ++ k :: s := h
    rw [jn_cons, List.append_assoc] at h
    exact sh_stop hq.1.1 hk h.symm
  | (x, x') :: xs, [], k, r, s, hp, hq, hk, hn, h => by
    exfalso
    simp only [PlKv, Bool.and_eq_true] at hp
    have h : jn ((sh x ++ 58 :: 32 :: sh x') :: xs.map fun q => sh q.1 ++ 58 :: 32 :: sh q.2) ++ k :: r = k :: s := h
    rw [jn_cons, List.append_assoc] at h
    exact sh_stop hp.1.1 hk h
  | (x, x') :: xs, (y, y') :: ys, k, r, s, hp, hq, hk, hn, h => by
    simp only [PlKv, Bool.and_eq_true] at hp hq
    have h : jn ((sh x ++ 58 :: 32 :: sh x') :: xs.map fun q => sh q.1 ++ 58 :: 32 :: sh q.2) ++ k :: r = jn ((sh y ++ 58 :: 32 :: sh y') :: ys.map fun q => sh q.1 ++ 58 :: 32 :: sh q.2) ++ k :: s := h
    rw [jn_cons, jn_cons, List.append_assoc, List.append_assoc] at h
    have s58 : stopC 58 := by unfold stopC; omega
    obtain ⟨e0, e1⟩ := sh_inj x y _ _ hp.1.1 hq.1.1 (stop_cons s58 _) (stop_cons s58 _) h
    have e9 := cons_inj2 e1
    obtain ⟨f1, e2⟩ := sh_inj x' y' _ _ hp.1.2 hq.1.2 (tail_stop hk) (tail_stop hk) e9
    cases xs with
    | nil =>
      cases ys with
      | nil =>
        have e2 : k :: r = k :: s := e2
        injection e2 with _ e2
        rw [e0, f1]
        exact ⟨rfl, e2⟩
      | cons y2 ys2 =>
        exfalso
        have e2 : k :: r = 44 :: _ := e2
        injection e2 with e2 _
        exact hn e2
    | cons x2 xs2 =>
      cases ys with
      | nil =>
        exfalso
        have e2 : 44 :: _ = k :: s := e2
        injection e2 with e2 _
        exact hn e2.symm
      | cons y2 ys2 =>
        have e3 : jn ((x2 :: xs2).map fun q => sh q.1 ++ 58 :: 32 :: sh q.2) ++ k :: r = jn ((y2 :: ys2).map fun q => sh q.1 ++ 58 :: 32 :: sh q.2) ++ k :: s := by
          rw [List.map_cons, List.map_cons, jn_flat, jn_flat]
          have e2 : 44 :: 32 :: (((sh x2.1 ++ 58 :: 32 :: sh x2.2) ++ ((xs2.map fun q => sh q.1 ++ 58 :: 32 :: sh q.2).map fun t => 44 :: 32 :: t).flatten) ++ k :: r) = 44 :: 32 :: (((sh y2.1 ++ 58 :: 32 :: sh y2.2) ++ ((ys2.map fun q => sh q.1 ++ 58 :: 32 :: sh q.2).map fun t => 44 :: 32 :: t).flatten) ++ k :: s) := by simpa using e2
          exact cons_inj2 e2
        obtain ⟨e4, e5⟩ := kvs_inj (x2 :: xs2) (y2 :: ys2) k r s hp.2 hq.2 hk hn e3
        rw [e0, f1, e4]
        exact ⟨rfl, e5⟩
end
/-- equal texts, equal values -/
theorem shown_inj {p q : PyData} (hp : Pl p = true) (hq : Pl q = true) (h : p.shown = q.shown) : p = q :=
  (sh_inj p q [] [] hp hq trivial trivial (by unfold sh; rw [h])).1
end Mi

end
section
set_option Elab.async false
set_option linter.all false
set_option maxRecDepth 100000
set_option maxHeartbeats 1000000
/-! Plain facts of the operations: types, stores that grow, data as repr shows it. -/
namespace Mi
open PySem L2
/-! ### isinstance -/
def isInt : D → Bool
  | .int _ => true
  | _ => false
def isBl : D → Bool
  | .bl _ => true
  | _ => false
def isStr : D → Bool
  | .str _ => true
  | _ => false
def isTup : D → Bool
  | .tup _ => true
  | _ => false
def tyS : List String := ["NoneType", "bool", "int", "str", "tuple", "list", "dict"]
theorem kit_int : ∀ a ∈ tyS, kitB a "int" = some (a == "int" || a == "bool") := by decide +kernel
theorem kit_bool : ∀ a ∈ tyS, kitB a "bool" = some (a == "bool") := by decide +kernel
theorem kit_str : ∀ a ∈ tyS, kitB a "str" = some (a == "str") := by decide +kernel
theorem kit_tup : ∀ a ∈ tyS, kitB a "tuple" = some (a == "tuple") := by decide +kernel
theorem kit_list : ∀ a ∈ tyS, kitB a "list" = some (a == "list") := by decide +kernel
/-- it is of the store -/
def Ty (S : Sto) (d : D) : Prop := match d with
  | .ref r => r < S.length
  | _ => True
theorem ty_ref {S : Sto} {r : Nat} (h : r < S.length) : tyD S (.ref r) = some "list" ∨ tyD S (.ref r) = some "dict" := by
  have e : S[r]? = some S[r] := List.getElem?_eq_getElem h
  show (match S[r]? with | some (.lst _) => some "list" | some (.dct _) => some "dict" | none => none) = some "list" ∨ (match S[r]? with | some (.lst _) => some "list" | some (.dct _) => some "dict" | none => none) = some "dict"
  rw [e]
  cases S[r] with
  | lst xs => exact .inl rfl
  | dct kvs => exact .inr rfl
theorem isi_int {S : Sto} {d : D} (h : Ty S d) : isiD S "int" d = some (isInt d || isBl d) := by
  unfold isiD
  cases d with
  | ref r => rcases ty_ref h with e | e <;> (rw [e]; exact kit_int _ (by decide))
  | _ => exact kit_int _ (by decide)
theorem isi_bool {S : Sto} {d : D} (h : Ty S d) : isiD S "bool" d = some (isBl d) := by
  unfold isiD
  cases d with
  | ref r => rcases ty_ref h with e | e <;> (rw [e]; exact kit_bool _ (by decide))
  | _ => exact kit_bool _ (by decide)
theorem isi_str {S : Sto} {d : D} (h : Ty S d) : isiD S "str" d = some (isStr d) := by
  unfold isiD
  cases d with
  | ref r => rcases ty_ref h with e | e <;> (rw [e]; exact kit_str _ (by decide))
  | _ => exact kit_str _ (by decide)
theorem isi_tup {S : Sto} {d : D} (h : Ty S d) : isiD S "tuple" d = some (isTup d) := by
  unfold isiD
  cases d with
  | ref r => rcases ty_ref h with e | e <;> (rw [e]; exact kit_tup _ (by decide))
  | _ => exact kit_tup _ (by decide)
/-! ### data, as the library has them -/
theorem py_tup (S : Sto) (xs : List D) : toPy S (.tup xs) = (toPys S xs).map .tuple := by
  unfold toPy toPys
  rw [toPyW]
theorem pys_nil (S : Sto) : toPys S [] = some [] := by
  unfold toPys
  rw [toPysW]
theorem pys_cons (S : Sto) (x : D) (xs : List D) : toPys S (x :: xs) = (toPy S x).bind fun p => (toPys S xs).map fun ps => p :: ps := by
  unfold toPy toPys
  rw [toPysW]
theorem py_non (S : Sto) : toPy S .non = some .none := by unfold toPy; rw [toPyW]
theorem py_bl (S : Sto) (b : Bool) : toPy S (.bl b) = some (.bool b) := by unfold toPy; rw [toPyW]
theorem py_int (S : Sto) (i : Int) : toPy S (.int i) = some (.int i) := by unfold toPy; rw [toPyW]
theorem py_str (S : Sto) (x : Str) : toPy S (.str x) = some (.str x) := by unfold toPy; rw [toPyW]
/-- what no store holds -/
inductive Fl : D → PyData → Prop
  | non : Fl .non .none
  | bl (b : Bool) : Fl (.bl b) (.bool b)
  | int (i : Int) : Fl (.int i) (.int i)
  | str (x : Str) : Fl (.str x) (.str x)
theorem Fl.any {d : D} {p : PyData} (h : Fl d p) (f : Nat → Option PyData) : toPyW f d = some p := by
  cases h <;> rw [toPyW]
theorem ints_any (f : Nat → Option PyData) : ∀ is : List Int, toPysW f (is.map D.int) = some (is.map PyData.int)
  | [] => by simp [toPysW]
  | i :: is => by
    rw [List.map_cons, toPysW, ints_any f is, toPyW]
    rfl
theorem py_ints {S : Sto} {r : Nat} {is : List Int} (h : S[r]? = some (.lst (is.map D.int))) : toPy S (.ref r) = some (.list (is.map PyData.int)) := by
  unfold toPy
  rw [toPyW, toPyR, h]
  dsimp only
  rw [ints_any]
  rfl
/-! ### the mapping grows with what it opens -/
mutual
theorem toPyW_mono {f g : Nat → Option PyData} (h : ∀ r p, f r = some p → g r = some p) : ∀ (d : D) (p : PyData), toPyW f d = some p → toPyW g d = some p
  | .non, p, e => by rw [toPyW] at e ⊢; exact e
  | .bl b, p, e => by rw [toPyW] at e ⊢; exact e
  | .int i, p, e => by rw [toPyW] at e ⊢; exact e
  | .str x, p, e => by rw [toPyW] at e ⊢; exact e
  | .tup xs, p, e => by
    rw [toPyW] at e ⊢
    cases q : toPysW f xs with
    | none => rw [q] at e; cases e
    | some ps => rw [q] at e; rw [toPysW_mono h xs ps q]; exact e
  | .frz xs, p, e => by
    rw [toPyW] at e ⊢
    cases q : toPysW f xs with
    | none => rw [q] at e; cases e
    | some ps => rw [q] at e; rw [toPysW_mono h xs ps q]; exact e
  | .ref r, p, e => by rw [toPyW] at e ⊢; exact h r p e
theorem toPysW_mono {f g : Nat → Option PyData} (h : ∀ r p, f r = some p → g r = some p) : ∀ (ds : List D) (ps : List PyData), toPysW f ds = some ps → toPysW g ds = some ps
  | [], ps, e => by rw [toPysW] at e ⊢; exact e
  | d :: ds, ps, e => by
    rw [toPysW] at e ⊢
    cases q : toPyW f d with
    | none => rw [q] at e; cases e
    | some p =>
      rw [q] at e
      rw [toPyW_mono h d p q]
      cases q2 : toPysW f ds with
      | none => rw [q2] at e; cases e
      | some qs => rw [q2] at e; rw [toPysW_mono h ds qs q2]; exact e
end
/-- objects that nothing opens -/
def hide (X : List Nat) (S : Sto) : Sto := S.mapIdx fun j o => if j ∈ X then .lst [.ref j] else o
theorem hide_in {X : List Nat} {S : Sto} {j : Nat} (h : j ∈ X) : (hide X S)[j]? = (S[j]?).map fun _ => .lst [.ref j] := by
  unfold hide
  rw [List.getElem?_mapIdx]
  simp only [h, if_true]
theorem hide_out {X : List Nat} {S : Sto} {j : Nat} (h : j ∉ X) : (hide X S)[j]? = S[j]? := by
  unfold hide
  rw [List.getElem?_mapIdx]
  simp only [h, if_false]
  cases S[j]? <;> rfl
theorem hide_self {X : List Nat} {r : Nat} (h : r ∈ X) (S : Sto) : ∀ n, toPyR (hide X S) n r = none
  | 0 => rfl
  | n + 1 => by
    rw [toPyR, hide_in h]
    cases S[r]? with
    | none => rfl
    | some o =>
      simp only [Option.map_some]
      rw [toPysW, toPyW, hide_self h S n]
      rfl
/-- the store may have grown, and what lies at these is another -/
def Fr (X : List Nat) (S S' : Sto) : Prop := S.length ≤ S'.length ∧ ∀ j, j < S.length → j ∉ X → S'[j]? = S[j]?
theorem Fr.refl (X : List Nat) (S : Sto) : Fr X S S := ⟨Nat.le_refl _, fun _ _ _ => rfl⟩
theorem Fr.trans {X : List Nat} {S S' S'' : Sto} (a : Fr X S S') (b : Fr X S' S'') : Fr X S S'' := ⟨Nat.le_trans a.1 b.1, fun j h n => (b.2 j (Nat.lt_of_lt_of_le h a.1) n).trans (a.2 j h n)⟩
theorem Fr.grow (X : List Nat) (S T : Sto) : Fr X S (S ++ T) := ⟨by simp, fun j h _ => List.getElem?_append_left h⟩
theorem Fr.put {X : List Nat} {r : Nat} (h : r ∈ X) (S : Sto) (o : SO) : Fr X S (S.set r o) := ⟨by simp, fun j _ n => List.getElem?_set_ne (fun e : r = j => n (by rw [← e]; exact h))⟩
theorem Fr.sub {X Y : List Nat} {S S' : Sto} (h : ∀ x ∈ X, x ∈ Y) (f : Fr X S S') : Fr Y S S' := ⟨f.1, fun j a n => f.2 j a fun z => n (h j z)⟩
/-- the store has only grown -/
def Gw (S S' : Sto) : Prop := S.length ≤ S'.length ∧ ∀ j, j < S.length → S'[j]? = S[j]?
theorem Gw.refl (S : Sto) : Gw S S := ⟨Nat.le_refl _, fun _ _ => rfl⟩
theorem Gw.trans {S S' S'' : Sto} (a : Gw S S') (b : Gw S' S'') : Gw S S'' := ⟨Nat.le_trans a.1 b.1, fun j h => (b.2 j (Nat.lt_of_lt_of_le h a.1)).trans (a.2 j h)⟩
theorem Gw.more (S T : Sto) : Gw S (S ++ T) := ⟨by simp, fun j h => List.getElem?_append_left h⟩
theorem Gw.fr {S S' : Sto} (h : Gw S S') (X : List Nat) : Fr X S S' := ⟨h.1, fun j hj _ => h.2 j hj⟩
theorem Gw.at_ {S S' : Sto} (h : Gw S S') {r : Nat} {o : SO} (e : S[r]? = some o) : S'[r]? = some o := (h.2 r (List.getElem?_eq_some_iff.mp e).1).trans e
theorem Fr.at_ {X : List Nat} {S S' : Sto} (h : Fr X S S') {j : Nat} {o : SO} (e : S[j]? = some o) (n : j ∉ X) : S'[j]? = some o := (h.2 j (List.getElem?_eq_some_iff.mp e).1 n).trans e
theorem toPyR_mono {S S' : Sto} (h : ∀ j o, S[j]? = some o → S'[j]? = some o ∨ ∀ n, toPyR S n j = none) : ∀ (n r : Nat) (p : PyData), toPyR S n r = some p → toPyR S' n r = some p
  | 0, _, _, e => by cases e
  | n + 1, r, p, e => by
    cases q : S[r]? with
    | none => rw [toPyR, q] at e; cases e
    | some o =>
      rcases h r o q with z | z
      · rw [toPyR, q] at e
        rw [toPyR, z]
        cases o with
        | lst xs =>
          dsimp only at e ⊢
          cases q2 : toPysW (toPyR S n) xs with
          | none => rw [q2] at e; cases e
          | some ps => rw [q2] at e; rw [toPysW_mono (fun r p => toPyR_mono h n r p) xs ps q2]; exact e
        | dct kvs =>
          dsimp only at e ⊢
          cases q2 : toPysW (toPyR S n) (kvs.map (·.2)) with
          | none => rw [q2] at e; cases e
          | some ps => rw [q2] at e; rw [toPysW_mono (fun r p => toPyR_mono h n r p) _ ps q2]; exact e
      · rw [z] at e; cases e
/-- its data, where nothing leads to these -/
def Py (X : List Nat) (S : Sto) (d : D) (p : PyData) : Prop := toPy (hide X S) d = some p
theorem Py.now {X : List Nat} {S : Sto} {d : D} {p : PyData} (h : Py X S d p) : toPy S d = some p := by
  refine toPyW_mono (fun j q e => toPyR_mono (fun k o e => ?_) 8 j q e) d p h
  by_cases hk : k ∈ X
  · exact .inr fun n => hide_self hk S n
  · rw [hide_out hk] at e
    exact .inl e
theorem Py.mono {X : List Nat} {S S' : Sto} {d : D} {p : PyData} (f : Fr X S S') (h : Py X S d p) : Py X S' d p := by
  refine toPyW_mono (fun j q e => toPyR_mono (fun k o e => ?_) 8 j q e) d p h
  by_cases hk : k ∈ X
  · exact .inr fun n => hide_self hk S n
  · rw [hide_out hk] at e ⊢
    exact .inl (f.at_ e hk)
theorem toPy_grow {S S' : Sto} {d : D} {p : PyData} (f : Gw S S') (h : toPy S d = some p) : toPy S' d = some p :=
  toPyW_mono (fun j q e => toPyR_mono (fun k o e => .inl (f.at_ e)) 8 j q e) d p h
/-! ### what repr shows of it -/
mutual
/-- plain texts, no great ints, not deep, not long -/
def wt : PyData → Nat
  | .none => 4
  | .bool _ => 5
  | .int i => if i.natAbs < 10 ^ 60 then 62 else 10 ^ 9
  | .str x => if plainS x = true then x.length + 2 else 10 ^ 9
  | .list xs => wts xs + 4
  | .tuple xs => wts xs + 4
  | .dict kvs => wtk kvs + 4
def wts : List PyData → Nat
  | [] => 0
  | x :: xs => wt x + 2 + wts xs
def wtk : List (PyData × PyData) → Nat
  | [] => 0
  | (k, v) :: r => wt k + wt v + 4 + wtk r
end
end Mi

end
section
set_option Elab.async false
set_option linter.all false
set_option maxRecDepth 100000
set_option maxHeartbeats 1000000
/-! repr of data that are not long. -/
namespace Mi
open PySem L2
theorem jn_len : ∀ ts : List (List Nat), (jn ts).length ≤ (ts.map fun t => t.length + 2).sum
  | [] => by simp [jn]
  | [x] => by simp [jn]
  | x :: y :: r => by
    have ih := jn_len (y :: r)
    simp only [jn, List.length_append, List.length_cons, List.map_cons, List.sum_cons] at ih ⊢
    omega
mutual
theorem wt_ok : ∀ p : PyData, wt p < 10 ^ 9 → Pl p = true ∧ p.showable = true ∧ (sh p).length ≤ wt p
  | .none, _ => ⟨rfl, rfl, by unfold sh; rw [PyData.shown, TL.tl_ofString]; decide⟩
  | .bool b, _ => ⟨rfl, rfl, by
      cases b
      · unfold sh; rw [PyData.shown, if_neg Bool.false_ne_true, TL.tl_ofString]; decide
      · unfold sh; rw [PyData.shown, if_pos rfl, TL.tl_ofString]; decide⟩
  | .int i, h => by
    rw [wt] at h ⊢
    have hi : i.natAbs < 10 ^ 60 := by
      by_cases z : i.natAbs < 10 ^ 60
      · exact z
      · rw [if_neg z] at h; omega
    rw [if_pos hi]
    refine ⟨rfl, ?_, ?_⟩
    · rw [PyData.showable]
      have : i.natAbs.log2 < 1920 := by
        by_cases z : i.natAbs = 0
        · rw [z]; decide
        · have : i.natAbs.log2 < 200 := (Nat.log2_lt z).mpr (Nat.lt_trans hi (by decide))
          omega
      exact decide_eq_true this
    · cases i with
      | ofNat m =>
        have e := sh_nat m
        show (sh (.int (m : Int))).length ≤ 62
        rw [e, List.length_map]
        have := PyProof.Rows.digits10_le (k := 60) (n := m) (by decide) hi
        omega
      | negSucc m =>
        rw [sh_neg, List.length_cons, List.length_map]
        have := PyProof.Rows.digits10_le (k := 60) (n := m + 1) (by decide) hi
        omega
  | .str x, h => by
    rw [wt] at h ⊢
    have hx : plainS x = true := by
      by_cases z : plainS x = true
      · exact z
      · rw [if_neg z] at h; omega
    rw [if_pos hx]
    refine ⟨by rw [Pl]; exact hx, rfl, ?_⟩
    rw [sh_str hx]
    simp [Str.length]
  | .list xs, h => by
    rw [wt] at h ⊢
    obtain ⟨h1, h2, h3⟩ := wts_ok xs (by omega)
    refine ⟨by rw [Pl]; exact h1, by rw [PyData.showable]; exact h2, ?_⟩
    rw [sh_list]
    have := jn_len (xs.map sh)
    rw [List.map_map] at this
    have h3 : (xs.map ((fun t => t.length + 2) ∘ sh)).sum ≤ wts xs := h3
    simp only [List.length_cons, List.length_append, List.length_nil]
    omega
  | .tuple xs, h => by
    rw [wt] at h ⊢
    obtain ⟨h1, h2, h3⟩ := wts_ok xs (by omega)
    refine ⟨by rw [Pl]; exact h1, by rw [PyData.showable]; exact h2, ?_⟩
    rw [sh_tuple]
    have := jn_len (xs.map sh)
    rw [List.map_map] at this
    have h3 : (xs.map ((fun t => t.length + 2) ∘ sh)).sum ≤ wts xs := h3
    have h4 : (if xs.length == 1 then [44, 41] else [41] : List Nat).length ≤ 2 := by split <;> simp
    simp only [List.length_cons, List.length_append]
    omega
  | .dict kvs, h => by
    rw [wt] at h ⊢
    obtain ⟨h1, h2, h3⟩ := wtk_ok kvs (by omega)
    refine ⟨by rw [Pl]; exact h1, by rw [PyData.showable]; exact h2, ?_⟩
    rw [sh_dict]
    have := jn_len (kvs.map fun q => sh q.1 ++ 58 :: 32 :: sh q.2)
    rw [List.map_map] at this
    have h3 : (kvs.map ((fun t => t.length + 2) ∘ fun q => sh q.1 ++ 58 :: 32 :: sh q.2)).sum ≤ wtk kvs := h3
    simp only [List.length_cons, List.length_append, List.length_nil]
    omega
theorem wts_ok : ∀ ps : List PyData, wts ps < 10 ^ 9 → Pls ps = true ∧ PyData.showableAll ps = true ∧ (ps.map ((fun t => t.length + 2) ∘ sh)).sum ≤ wts ps
  | [], _ => ⟨rfl, rfl, by simp⟩
  | x :: xs, h => by
    rw [wts] at h ⊢
    obtain ⟨a1, a2, a3⟩ := wt_ok x (by omega)
    obtain ⟨b1, b2, b3⟩ := wts_ok xs (by omega)
    refine ⟨by rw [Pls, a1, b1]; rfl, by rw [PyData.showableAll, a2, b2]; rfl, ?_⟩
    rw [List.map_cons, List.sum_cons]
    show (sh x).length + 2 + _ ≤ _
    omega
theorem wtk_ok : ∀ ps : List (PyData × PyData), wtk ps < 10 ^ 9 → PlKv ps = true ∧ PyData.showableKv ps = true ∧ (ps.map ((fun t => t.length + 2) ∘ fun q => sh q.1 ++ 58 :: 32 :: sh q.2)).sum ≤ wtk ps
  | [], _ => ⟨rfl, rfl, by simp⟩
  | (k, v) :: r, h => by
    rw [wtk] at h ⊢
    obtain ⟨a1, a2, a3⟩ := wt_ok k (by omega)
    obtain ⟨c1, c2, c3⟩ := wt_ok v (by omega)
    obtain ⟨b1, b2, b3⟩ := wtk_ok r (by omega)
    refine ⟨by rw [PlKv, a1, c1, b1]; rfl, by rw [PyData.showableKv, a2, c2, b2]; rfl, ?_⟩
    rw [List.map_cons, List.sum_cons]
    show (sh k ++ 58 :: 32 :: sh v).length + 2 + _ ≤ _
    simp only [List.length_append, List.length_cons]
    omega
end
/-- data that repr shows -/
def Nice (p : PyData) : Prop := wt p < 10 ^ 6 ∧ p.depth ≤ 40
instance (p : PyData) : Decidable (Nice p) := by unfold Nice; exact inferInstance
theorem line_big : 10 ^ 6 ≤ sizeLine := by decide
theorem repr_nice {S : Sto} {d : D} {p : PyData} (h : toPy S d = some p) (hn : Nice p) : reprD S d = some p.shown := by
  unfold reprD
  rw [h]
  obtain ⟨h1, h2⟩ := hn
  obtain ⟨a1, a2, a3⟩ := wt_ok p (Nat.lt_of_lt_of_le h1 (by decide))
  have hl : p.shown.length ≤ sizeLine := by
    have e : p.shown.length = (sh p).length := by unfold sh TL.tl Str.length; simp
    rw [e]
    exact Nat.le_trans a3 (Nat.le_trans (Nat.le_of_lt h1) line_big)
  show (if p.showable = true ∧ p.depth ≤ 40 ∧ p.shown.length ≤ sizeLine then some p.shown else none) = _
  rw [if_pos ⟨a2, h2, hl⟩]
theorem nice_inj {p q : PyData} (hp : Nice p) (hq : Nice q) : p.shown = q.shown ↔ p = q :=
  ⟨fun h => shown_inj (wt_ok p (Nat.lt_of_lt_of_le hp.1 (by decide))).1 (wt_ok q (Nat.lt_of_lt_of_le hq.1 (by decide))).1 h, fun h => by rw [h]⟩
/-- equal texts -/
theorem eq_strs (S : Sto) (x y : Str) : cmpD S .eq (.str x) (.str y) = some (decide (x = y)) := rfl
theorem ne_strs (S : Sto) (x y : Str) : cmpD S .ne (.str x) (.str y) = some (!decide (x = y)) := rfl
/-- a text among texts -/
theorem in_strs (x : Str) (ys : List Str) : inD (.str x) (ys.map D.str) = some (decide (x ∈ ys)) := by
  unfold inD
  have e : (flat (.str x) && (ys.map D.str).all flat) = true := by
    simp [flat]
  rw [if_pos e]
  congr 1
  unfold inV
  rw [List.any_map, Bool.eq_iff_iff, List.any_eq_true, decide_eq_true_eq]
  constructor
  · rintro ⟨z, hz, e⟩
    obtain ⟨y, hy, e2⟩ := List.mem_map.mp hz
    subst e2
    have e : eqV (V.str y) (V.str x) = true := e
    have e : decide (y = x) = true := e
    rw [← of_decide_eq_true e]
    exact hy
  · intro h
    exact ⟨.str x, List.mem_map_of_mem h, decide_eq_true rfl⟩

theorem lstAt_of {S : Sto} {r : Nat} {xs : List D} (h : S[r]? = some (.lst xs)) : lstAt S r = some xs := by
  unfold lstAt
  rw [h]
@[simp] theorem ix_ref (S : Sto) (r : Nat) (i : Int) : ixD S (.ref r) (.int i) = (lstAt S r).bind fun xs => atI xs i := rfl
@[simp] theorem lstAt_set {S : Sto} {r : Nat} {xs : List D} (h : r < S.length) : lstAt (S.set r (.lst xs)) r = some xs := lstAt_of (List.getElem?_set_self h)
@[simp] theorem lstAt_app {S T : Sto} {r : Nat} (h : r < S.length) : lstAt (S ++ T) r = lstAt S r := by
  unfold lstAt
  rw [List.getElem?_append_left h]
@[simp] theorem lstAt_new {S : Sto} {xs : List D} {k : Nat} (h : k = S.length) : lstAt (S ++ [.lst xs]) k = some xs := by
  subst h
  exact lstAt_of (by simp)
@[simp] theorem len_ref (S : Sto) (r : Nat) : biD S .len [.ref r] = (lstAt S r).map fun xs => (.int xs.length, S) := rfl
@[simp] theorem len_tup (S : Sto) (xs : List D) : biD S .len [.tup xs] = some (.int xs.length, S) := rfl
@[simp] theorem len_frz (S : Sto) (xs : List D) : biD S .len [.frz xs] = some (.int xs.length, S) := rfl
theorem ix_lst {S : Sto} {r : Nat} {xs : List D} (h : S[r]? = some (.lst xs)) (i : Int) : ixD S (.ref r) (.int i) = atI xs i := by
  show (lstAt S r).bind (fun xs => atI xs i) = _
  unfold lstAt
  rw [h]
  rfl
@[simp] theorem ix_tup (S : Sto) (xs : List D) (i : Int) : ixD S (.tup xs) (.int i) = atI xs i := rfl
@[simp] theorem ix_frz (S : Sto) (xs : List D) (i : Int) : ixD S (.frz xs) (.int i) = atI xs i := rfl
section
variable {G : List D} {W : Nat} {cal : Cal} {ρ : Loc} {S : Sto} {Pn : Loc → Sto → Prop} {Pr : D → Sto → Prop}
@[simp] theorem Ws_setIx (o i e : E) : Wo (exS G W cal (.setIx o i e) ρ S) Pn Pr ↔ Wp (evE G cal e ρ S) fun v S1 => Wp (evE G cal o ρ S1) fun x S2 => Wp (evE G cal i ρ S2) fun y S3 =>
    IsR x fun r => IsI y fun n => Oo (lstAt S3 r) fun xs => Oo (ixN xs.length n) fun j => Pn ρ (S3.set r (.lst (xs.set j v))) := by
  rw [exS, Wo_ofE]
  refine ⟨fun h => Wp_mono h fun v S1 h => ?_, fun h => Wp_mono h fun v S1 h => ?_⟩
  · rw [Wo_ofE] at h
    refine Wp_mono h fun x S2 h => ?_
    rw [Wo_ofE] at h
    refine Wp_mono h fun y S3 h => ?_
    cases x with
    | ref r =>
      cases y with
      | int n =>
        dsimp only at h
        split at h
        · rename_i xs q
          split at h
          · rename_i j q2
            rw [Wo_nx] at h
            rw [IsR_ref, IsI_int, lstAt_of q, Oo_some, q2]
            exact h
          · exact (Wo_none.mp h).elim
        · exact (Wo_none.mp h).elim
      | _ => exact (Wo_none.mp h).elim
    | _ => cases y <;> exact (Wo_none.mp h).elim
  · rw [Wo_ofE]
    refine Wp_mono h fun x S2 h => ?_
    rw [Wo_ofE]
    refine Wp_mono h fun y S3 h => ?_
    obtain ⟨r, rfl, h⟩ := (IsR_ex _ _).mp h
    obtain ⟨n, rfl, h⟩ := (IsI_ex _ _).mp h
    obtain ⟨xs, q, h⟩ := (Oo_ex _ _).mp h
    obtain ⟨j, q2, h⟩ := (Oo_ex _ _).mp h
    have q : S3[r]? = some (.lst xs) := by
      unfold lstAt at q
      split at q
      · rename_i ys q3
        cases q
        exact q3
      · cases q
    simp only [q, q2]
    exact (Wo_nx _ _).mpr h
end
section
variable {G : List D} {W : Nat} {cal : Cal} {ρ : Loc} {S : Sto} {Pn : Loc → Sto → Prop} {Pr : D → Sto → Prop} {t : Tg} {body : Loc → Sto → Option O} {ok : Sto → Bool}
@[simp] theorem Wfor_nil : Wo (forGo t body ok [] ρ S) Pn Pr ↔ Pn ρ S := by rw [forGo, Wo_nx]
@[simp] theorem Wfor_cons (x : D) (xs : List D) : Wo (forGo t body ok (x :: xs) ρ S) Pn Pr ↔ Oo (setT ρ t x) fun ρ1 => Wo (body ρ1 S) (fun ρ2 S2 => ok S2 = true ∧ Wo (forGo t body ok xs ρ2 S2) Pn Pr) Pr := by
  rw [forGo]
  cases setT ρ t x with
  | none => exact ⟨fun h => (Wo_none.mp h).elim, fun h => h.elim⟩
  | some ρ1 =>
    simp only [Option.bind_some, Oo_some]
    cases body ρ1 S with
    | none => exact ⟨fun h => (Wo_none.mp h).elim, fun h => (Wo_none.mp h).elim⟩
    | some o =>
      cases o with
      | nx ρ2 S2 =>
        rw [Wo_nx]
        show Wo (if ok S2 = true then forGo t body ok xs ρ2 S2 else none) Pn Pr ↔ _
        by_cases h : ok S2 = true
        · rw [if_pos h]; exact ⟨fun z => ⟨h, z⟩, fun z => z.2⟩
        · rw [if_neg h]; exact ⟨fun z => (Wo_none.mp z).elim, fun z => absurd z.1 h⟩
      | rt d S2 => rw [Wo_rt, Wo_rt]
      | ex c v S2 => rw [Wo_exn, Wo_exn]
@[simp] theorem it_tup (xs : List D) : itD S .seq [.tup xs] = some (xs, none) := rfl
@[simp] theorem it_frz (xs : List D) : itD S .seq [.frz xs] = some (xs, none) := rfl
@[simp] theorem it_ref (r : Nat) : itD S .seq [.ref r] = (lstAt S r).map fun xs => (xs, some r) := rfl
theorem it_rng1 (b : Int) : itD S .rng1 [.int b] = if -(2 ^ 62) ≤ b ∧ b < 2 ^ 62 then some (rgD 0 b, none) else none := rfl
theorem it_rng2 (a b : Int) : itD S .rng2 [.int a, .int b] = if -(2 ^ 62) ≤ a ∧ a < 2 ^ 62 ∧ -(2 ^ 62) ≤ b ∧ b < 2 ^ 62 then some (rgD a b, none) else none := rfl
theorem it_rng3 (a b c : Int) : itD S .rng3 [.int a, .int b, .int c] = (rngN a b c).map fun n => ((List.range n).map fun (i : Nat) => D.int (a + (i : Int) * c), none) := rfl
@[simp] theorem still_none (xs : List D) : still none xs S = true := rfl
@[simp] theorem lift2_some (d : D) : lift2 (some (d, S)) = some (.ok d S) := rfl
end
theorem eqD_of {S : Sto} {x y : D} {p q : PyData} (hx : toPy S x = some p) (hy : toPy S y = some q) (h : (SeqAt.shaped p && SeqAt.shaped q) = true) (hs : isStr x = false ∨ isStr y = false) : eqD S x y = some (PyData.eqv p q) := by
  have e : eqD S x y = (toPy S x).bind fun p => (toPy S y).bind fun q => if (SeqAt.shaped p && SeqAt.shaped q) = true then some (PyData.eqv p q) else none := by
    cases x <;> first | rfl | (cases y <;> first | rfl | (rcases hs with z | z <;> cases z))
  rw [e, hx, hy]
  show (if (SeqAt.shaped p && SeqAt.shaped q) = true then some (PyData.eqv p q) else none) = _
  rw [if_pos h]
@[simp] theorem eq_ints (S : Sto) (i j : Int) : cmpD S .eq (.int i) (.int j) = some (decide (i = j)) := by
  show eqD S (.int i) (.int j) = _
  rw [eqD_of (py_int S i) (py_int S j) (by rfl) (.inl rfl)]
  show some (i == j) = _
  congr 1
@[simp] theorem ne_ints (S : Sto) (i j : Int) : cmpD S .ne (.int i) (.int j) = some (!decide (i = j)) := by
  show (eqD S (.int i) (.int j)).map (fun b => !b) = _
  rw [eqD_of (py_int S i) (py_int S j) (by rfl) (.inl rfl)]
  show some (!(i == j)) = _
  congr 1
@[simp] theorem eq_int_non (S : Sto) (i : Int) : cmpD S .eq (.int i) .non = some false := by
  show eqD S (.int i) .non = _
  rw [eqD_of (py_int S i) (py_non S) (by rfl) (.inl rfl)]
  rfl
theorem eqv_ints (is js : List Int) : PyData.eqvAll (is.map PyData.int) (js.map PyData.int) = decide (is = js) := by
  induction is generalizing js with
  | nil => cases js <;> rfl
  | cons i is ih =>
    cases js with
    | nil => rfl
    | cons j js =>
      show (PyData.eqv (.int i) (.int j) && PyData.eqvAll (is.map PyData.int) (js.map PyData.int)) = _
      rw [ih]
      show ((i == j) && decide (is = js)) = _
      rw [Bool.eq_iff_iff]
      simp
theorem shaped_ints (is : List Int) : SeqAt.shaped (.list (is.map PyData.int)) = true := by
  have h1 : ∀ l : List Int, PyData.canLayAll0 (l.map PyData.int) = true := by
    intro l
    induction l with
    | nil => rfl
    | cons x l ih =>
      show (PyData.canLay0 (.int x) && PyData.canLayAll0 (l.map PyData.int)) = true
      rw [ih]; rfl
  have h2 : ∀ l : List Int, PyData.depthAll (l.map PyData.int) ≤ 1 := by
    intro l
    induction l with
    | nil => exact Nat.zero_le _
    | cons x l ih =>
      show max (PyData.depth (.int x)) (PyData.depthAll (l.map PyData.int)) ≤ 1
      exact Nat.max_le.mpr ⟨by rw [PyData.depth]; omega, ih⟩
  unfold SeqAt.shaped
  rw [Bool.and_eq_true]
  refine ⟨h1 is, decide_eq_true ?_⟩
  have := h2 is
  rw [PyData.depth]
  omega
/-- two lists of ints -/
theorem eq_lists {S : Sto} {a b : Nat} {is js : List Int} (ha : lstAt S a = some (is.map D.int)) (hb : lstAt S b = some (js.map D.int)) : cmpD S .eq (.ref a) (.ref b) = some (decide (is = js)) ∧ cmpD S .ne (.ref a) (.ref b) = some (!decide (is = js)) := by
  have get : ∀ {r : Nat} {xs : List D}, lstAt S r = some xs → S[r]? = some (.lst xs) := fun {r xs} h => by
    unfold lstAt at h
    split at h
    · rename_i ys q; cases h; exact q
    · cases h
  have e : eqD S (.ref a) (.ref b) = some (decide (is = js)) := by
    rw [eqD_of (py_ints (get ha)) (py_ints (get hb)) (by rw [shaped_ints, shaped_ints]; rfl) (.inl rfl)]
    show some (PyData.eqvAll _ _) = _
    rw [eqv_ints]
  refine ⟨e, ?_⟩
  show (eqD S (.ref a) (.ref b)).map (fun b => !b) = _
  rw [e]
  rfl
@[simp] theorem eq_bls (S : Sto) (a b : Bool) : cmpD S .eq (.bl a) (.bl b) = some (a == b) := by
  show eqD S (.bl a) (.bl b) = _
  rw [eqD_of (py_bl S a) (py_bl S b) (by rfl) (.inl rfl)]
  rfl
@[simp] theorem ne_bls (S : Sto) (a b : Bool) : cmpD S .ne (.bl a) (.bl b) = some (!(a == b)) := by
  show (eqD S (.bl a) (.bl b)).map (fun b => !b) = _
  rw [eqD_of (py_bl S a) (py_bl S b) (by rfl) (.inl rfl)]
  rfl
@[simp] theorem eq_strs' (S : Sto) (x y : Str) : cmpD S .eq (.str x) (.str y) = some (decide (x = y)) := rfl
@[simp] theorem ne_strs' (S : Sto) (x y : Str) : cmpD S .ne (.str x) (.str y) = some (!decide (x = y)) := rfl
@[simp] theorem lk0 (S T : Sto) (xs : List D) : lstAt (S ++ (.lst xs :: T)) S.length = some xs := lstAt_of (by simp)
@[simp] theorem lk1 (S T : Sto) (a : SO) (xs : List D) : lstAt (S ++ (a :: .lst xs :: T)) (S.length + 1) = some xs := lstAt_of (by rw [List.getElem?_append_right (by omega)]; simp)
@[simp] theorem lk2 (S T : Sto) (a b : SO) (xs : List D) : lstAt (S ++ (a :: b :: .lst xs :: T)) (S.length + 2) = some xs := lstAt_of (by rw [List.getElem?_append_right (by omega)]; simp)
@[simp] theorem lk3 (S T : Sto) (a b c : SO) (xs : List D) : lstAt (S ++ (a :: b :: c :: .lst xs :: T)) (S.length + 3) = some xs := lstAt_of (by rw [List.getElem?_append_right (by omega)]; simp)
end Mi

end
section
set_option Elab.async false
set_option linter.all false
set_option maxRecDepth 100000
set_option maxHeartbeats 4000000
/-! The small language over values: no store but the pots. -/
namespace Pv
open PySem L2 Mi
noncomputable section
/-- a value -/
inductive U where
  | non | bl (b : Bool) | int (i : Int) | str (x : Str) | tup (xs : List U) | lst (xs : List U) | frz (xs : List U) | dct (ks vs : List U) | pot (k : Nat)
mutual
def U.toP : U → PyData
  | .non => .none
  | .bl b => .bool b
  | .int i => .int i
  | .str x => .str x
  | .tup xs => .tuple (U.toPs xs)
  | .lst xs => .list (U.toPs xs)
  | .frz xs => .list (U.toPs xs)
  | .dct ks vs => .dict ((U.toPs ks).zip (U.toPs vs))
  | .pot _ => .none
def U.toPs : List U → List PyData
  | [] => []
  | x :: xs => U.toP x :: U.toPs xs
end
mutual
/-- how deep its objects lie -/
def U.rd : U → Nat
  | .tup xs => U.rds xs
  | .lst xs => U.rds xs + 1
  | .frz xs => U.rds xs
  | .dct ks vs => max (U.rds ks) (U.rds vs) + 1
  | .pot _ => 100
  | .non => 0
  | .bl _ => 0
  | .int _ => 0
  | .str _ => 0
def U.rds : List U → Nat
  | [] => 0
  | x :: xs => max (U.rd x) (U.rds xs)
end
/-- a pot: what is left of the number, what it was made of, how often it was asked -/
abbrev Pt := Int × Int × Int
abbrev Ps := List Pt
inductive Rv (α : Type) where
  | ok (a : α) (P : Ps)
  | ex (c : Nat) (v : U) (P : Ps)
def bndV {α β : Type} (x : Option (Rv α)) (k : α → Ps → Option (Rv β)) : Option (Rv β) := match x with
  | some (.ok a S) => k a S
  | some (.ex c v S) => some (.ex c v S)
  | none => none
@[simp] theorem bndV_ok {α β : Type} (a : α) (S : Ps) (k : α → Ps → Option (Rv β)) : bndV (some (.ok a S)) k = k a S := rfl
@[simp] theorem bndV_none {α β : Type} (k : α → Ps → Option (Rv β)) : bndV none k = none := rfl
abbrev LocU := List (Option U)
abbrev CalU := Nat → List U → Ps → Option (Rv U)
def flatU : U → Bool
  | .non => true
  | .bl _ => true
  | .int _ => true
  | .str _ => true
  | _ => false
def fU : U → L2.V
  | .bl b => .bl b
  | .int i => .int i
  | .str x => .str x
  | _ => .non
/-- a condition that nothing opens -/
theorem stk_ex (c : Prop) [Decidable c] : ∃ b : Bool, b = decide c := ⟨_, rfl⟩
def stk (c : Prop) [Decidable c] : Bool := Classical.choose (stk_ex c)
theorem stk_eq (c : Prop) [Decidable c] : stk c = decide c := Classical.choose_spec (stk_ex c)
theorem stk_iff {c : Prop} [Decidable c] : stk c = true ↔ c := by rw [stk_eq, decide_eq_true_eq]
def mulB (i j : Int) : Bool := stk (mulOk i j)
def fdB (j : Int) : Bool := stk (fdOk j)
def powB (i j : Int) : Bool := stk (powOk i j)
def rngB (a b : Int) : Bool := stk (-(2 ^ 62) ≤ a ∧ a < 2 ^ 62 ∧ -(2 ^ 62) ≤ b ∧ b < 2 ^ 62)
def rgB (a b : Int) : Bool := stk (rgOk a b)
def strB (i : Int) : Bool := stk (i.natAbs.log2 < 1920)
def opU : Op2 → U → U → Option U
  | .add, .int i, .int j => some (.int (i + j))
  | .add, .str x, .str y => if x.length + y.length ≤ sizeLine then some (.str (x ++ y)) else none
  | .add, .tup xs, .tup ys => if xs.length + ys.length ≤ sizeLine then some (.tup (xs ++ ys)) else none
  | .add, .lst xs, .lst ys => if xs.length + ys.length ≤ sizeLine then some (.lst (xs ++ ys)) else none
  | .sub, .int i, .int j => some (.int (i - j))
  | .mul, .int i, .int j => if mulB i j = true then some (.int (i * j)) else none
  | .fdiv, .int i, .int j => if fdB j = true then some (.int (i / j)) else none
  | .mod, .int i, .int j => if 0 < j then some (.int (i % j)) else none
  | .pow, .int i, .int j => if powB i j = true then some (.int (i ^ j.toNat)) else none
  | _, _, _ => none
def eqU (x y : U) : Option Bool := match x, y with
  | .str a, .str b => some (decide (a = b))
  | x, y => if x.rd ≤ 8 ∧ y.rd ≤ 8 ∧ (SeqAt.shaped x.toP && SeqAt.shaped y.toP) = true then some (PyData.eqv x.toP y.toP) else none
def inU (x : U) (ys : List U) : Option Bool := if (flatU x && ys.all flatU) = true then some (inV (fU x) (ys.map fU)) else none
def inDeepU (x y : U) : Option Bool := if x.rd ≤ 8 ∧ y.rd ≤ 8 then match y.toP with
    | .list ps => if (x.toP.canLay0 && (PyData.canLayAll0 ps && decide (x.toP.depth ≤ 60))) = true then some (ps.any fun z => PyData.eqv z x.toP) else none
    | .tuple ps => if (x.toP.canLay0 && (PyData.canLayAll0 ps && decide (x.toP.depth ≤ 60))) = true then some (ps.any fun z => PyData.eqv z x.toP) else none
    | _ => none
  else none
def seqU : U → Option (List U)
  | .tup xs => some xs
  | .lst xs => some xs
  | .frz xs => some xs
  | _ => none
def inSU (x y : U) : Option Bool := match (seqU y).bind (inU x) with
  | some b => some b
  | none => inDeepU x y
def isNonU : U → Bool
  | .non => true
  | _ => false
def cmpU : Cm → U → U → Option Bool
  | .lt, .int i, .int j => some (decide (i < j))
  | .le, .int i, .int j => some (decide (i ≤ j))
  | .gt, .int i, .int j => some (decide (j < i))
  | .ge, .int i, .int j => some (decide (j ≤ i))
  | .eq, x, y => eqU x y
  | .ne, x, y => (eqU x y).map fun b => !b
  | .isN, x, .non => some (isNonU x)
  | .notN, x, .non => some (!isNonU x)
  | .isIn, x, y => inSU x y
  | .notIn, x, y => (inSU x y).map fun b => !b
  | _, _, _ => none
def ixU : U → U → Option U
  | .str z, .int i => if z.length ≤ sizeLine then (atI z.cps.toList i).map fun c => .str ⟨#[c]⟩ else none
  | x, .int i => (seqU x).bind fun xs => atI xs i
  | _, _ => none
def cutU {α : Type} (xs : List α) (lo hi : Option Int) : List α := (xs.drop (HT.sIx xs.length 0 lo)).take (HT.sIx xs.length xs.length hi - HT.sIx xs.length 0 lo)
def slcU : U → Option Int → Option Int → Option U
  | .tup xs, lo, hi => some (.tup (cutU xs lo hi))
  | .lst xs, lo, hi => some (.lst (cutU xs lo hi))
  | .frz xs, lo, hi => some (.lst (cutU xs lo hi))
  | _, _, _ => none
def revU : U → Option U
  | .tup xs => some (.tup xs.reverse)
  | _ => none
def tyU : U → Option String
  | .non => some "NoneType"
  | .bl _ => some "bool"
  | .int _ => some "int"
  | .str _ => some "str"
  | .tup _ => some "tuple"
  | .lst _ => some "list"
  | .frz _ => some "list"
  | .dct _ _ => some "dict"
  | .pot _ => none
def isiU (t : String) (d : U) : Option Bool := (tyU d).bind fun a => kitB a t
def reprU (x : U) : Option Str := if x.rd ≤ 8 ∧ x.toP.showable = true ∧ x.toP.depth ≤ 40 ∧ x.toP.shown.length ≤ sizeLine then some x.toP.shown else none
def blsU : List U → Option (List Bool)
  | [] => some []
  | .bl b :: r => (blsU r).map fun bs => b :: bs
  | _ :: _ => none
def intsU : List U → Option (List Int)
  | [] => some []
  | .int i :: r => (intsU r).map fun is => i :: is
  | _ :: _ => none
def rgU (a b : Int) : List U := (List.range (b - a).toNat).map fun (i : Nat) => U.int (a + (i : Int))
def biU : Bi → List U → Option U
  | .len, [.str z] => if z.length ≤ sizeLine then some (.int z.length) else none
  | .len, [x] => (seqU x).map fun xs => .int xs.length
  | .int, [.int i] => some (.int i)
  | .int, [.bl b] => some (.int (if b then 1 else 0))
  | .abs, [.int i] => some (.int (if i < 0 then -i else i))
  | .min2, [.int i, .int j] => some (.int (if j < i then j else i))
  | .max2, [.int i, .int j] => some (.int (if j > i then j else i))
  | .isi t, [x] => (isiU t x).map .bl
  | .repr, [x] => (reprU x).map .str
  | .str, [.int i] => if strB i = true then some (.str (toString i)) else none
  | .all, [.lst xs] => (blsU xs).map fun bs => .bl (bs.all id)
  | .any, [.lst xs] => (blsU xs).map fun bs => .bl (bs.any id)
  | .sum, [.lst xs] => (intsU xs).map fun is => .int is.sum
  | .lst, [x] => (seqU x).map .lst
  | .tuple, [x] => (seqU x).map .tup
  | .rng, [.int a, .int b] => if rgB a b = true then some (.lst (rgU a b)) else none
  | .rng1, [.int b] => if rgB 0 b = true then some (.lst (rgU 0 b)) else none
  | .sset, [.lst xs] => (intsU xs).bind fun is => if is.length < 4000 then some (.lst ((ssetI is).map .int)) else none
  | _, _ => none
def itU : Ik → List U → Option (List U)
  | .seq, [x] => seqU x
  | .rng1, [.int b] => if rngB 0 b = true then some (rgU 0 b) else none
  | .rng2, [.int a, .int b] => if rngB a b = true then some (rgU a b) else none
  | .rng3, [.int a, .int b, .int c] => (rngN a b c).map fun n => (List.range n).map fun (i : Nat) => U.int (a + (i : Int) * c)
  | _, _ => none
def compU (cond : U → Ps → Option (Rv Bool)) (elt : U → Ps → Option (Rv U)) : List U → Ps → Option (Rv (List U))
  | [], S => some (.ok [] S)
  | x :: xs, S => bndV (cond x S) fun b S1 => if b = true then bndV (elt x S1) fun d S2 => bndV (compU cond elt xs S2) fun ds S3 => some (.ok (d :: ds) S3) else compU cond elt xs S1
def wipeU (ρ : LocU) : List Nat → LocU
  | [] => ρ
  | v :: vs => (wipeU ρ vs).set v none
def setAllU : LocU → List Nat → List U → LocU
  | ρ, i :: is, d :: ds => setAllU (ρ.set i (some d)) is ds
  | ρ, _, _ => ρ
def setU (ρ : LocU) : Tg → U → Option LocU
  | .one i, d => some (ρ.set i (some d))
  | .tup is, .tup xs => if xs.length = is.length then some (setAllU ρ is xs) else none
  | _, _ => none
/-- no error leaves -/
def noXU {α : Type} : Option (Rv α) → Option (Rv α)
  | some (.ok a S) => some (.ok a S)
  | _ => none
def tstU (x : Option (Rv U)) : Option (Rv Bool) := bndV x fun d S => match d with
  | .bl b => some (.ok b S)
  | _ => none
def liftU (x : Option U) (P : Ps) : Option (Rv U) := x.map fun q => .ok q P
@[simp] theorem liftU_some (x : U) (P : Ps) : liftU (some x) P = some (.ok x P) := rfl
def litU : D → Option U
  | .non => some .non
  | .bl b => some (.bl b)
  | .int i => some (.int i)
  | .str x => some (.str x)
  | _ => none
mutual
def evU (G : Nat → Option U) (cal : CalU) : E → LocU → Ps → Option (Rv U)
  | .var i, ρ, S => match ρ[i]? with
    | some (some d) => some (.ok d S)
    | _ => none
  | .lit d, _, S => (litU d).map fun u => .ok u S
  | .glb k, _, S => match G k with
    | some d => some (.ok d S)
    | none => none
  | .tup es, ρ, S => bndV (evUs G cal es ρ S) fun ds S1 => if ds.length ≤ sizeLine then some (.ok (.tup ds) S1) else none
  | .lst es, ρ, S => bndV (evUs G cal es ρ S) fun ds S1 => if ds.length ≤ sizeLine then some (.ok (.lst ds) S1) else none
  | .dic ks es, ρ, S => bndV (evUs G cal es ρ S) fun ds S1 => if ks.length = ds.length then some (.ok (.dct (ks.map .str) ds) S1) else none
  | .op o a b, ρ, S => bndV (evU G cal a ρ S) fun x S1 => bndV (evU G cal b ρ S1) fun y S2 => liftU (opU o x y) S2
  | .neg a, ρ, S => bndV (evU G cal a ρ S) fun x S1 => match x with
    | .int i => some (.ok (.int (-i)) S1)
    | _ => none
  | .cmp c a b, ρ, S => bndV (evU G cal a ρ S) fun x S1 => bndV (evU G cal b ρ S1) fun y S2 => (cmpU c x y).map fun r => .ok (.bl r) S2
  | .chain c1 c2 a b c, ρ, S => bndV (evU G cal a ρ S) fun x S1 => bndV (evU G cal b ρ S1) fun y S2 => match cmpU c1 x y with
    | some true => bndV (evU G cal c ρ S2) fun z S3 => (cmpU c2 y z).map fun r => .ok (.bl r) S3
    | some false => some (.ok (.bl false) S2)
    | none => none
  | .and es, ρ, S => evAndU G cal es ρ S
  | .or es, ρ, S => evOrU G cal es ρ S
  | .not a, ρ, S => bndV (tstU (evU G cal a ρ S)) fun b S1 => some (.ok (.bl (!b)) S1)
  | .ite c a b, ρ, S => bndV (tstU (evU G cal c ρ S)) fun t S1 => if t = true then evU G cal a ρ S1 else evU G cal b ρ S1
  | .ix a b, ρ, S => bndV (evU G cal a ρ S) fun x S1 => bndV (evU G cal b ρ S1) fun y S2 => liftU (ixU x y) S2
  | .slc a lo hi, ρ, S => bndV (evU G cal a ρ S) fun x S1 => bndV (evOU G cal lo ρ S1) fun l S2 => bndV (evOU G cal hi ρ S2) fun h S3 => liftU (slcU x l h) S3
  | .rev a, ρ, S => bndV (evU G cal a ρ S) fun x S1 => liftU (revU x) S1
  | .call f es, ρ, S => bndV (evUs G cal es ρ S) fun ds S1 => cal f ds S1
  | .bi b es, ρ, S => bndV (evUs G cal es ρ S) fun ds S1 => liftU (biU b ds) S1
  | .ext _ _, _, _ => none
  | .app _ _, _, _ => none
  | .lc vs t k its cs elt, ρ, S => bndV (evUs G cal its ρ S) fun ds S1 => match itU k ds with
    | some xs => bndV (noXU (compU (fun x S2 => (setU (wipeU ρ vs) t x).bind fun ρ' => evTU G cal cs ρ' S2) (fun x S2 => (setU (wipeU ρ vs) t x).bind fun ρ' => evU G cal elt ρ' S2) xs S1)) fun ys S3 =>
        if ys.length ≤ sizeLine then some (.ok (.lst ys) S3) else none
    | none => none
def evUs (G : Nat → Option U) (cal : CalU) : List E → LocU → Ps → Option (Rv (List U))
  | [], _, S => some (.ok [] S)
  | e :: es, ρ, S => bndV (evU G cal e ρ S) fun d S1 => bndV (evUs G cal es ρ S1) fun ds S2 => some (.ok (d :: ds) S2)
def evAndU (G : Nat → Option U) (cal : CalU) : List E → LocU → Ps → Option (Rv U)
  | [], _, _ => none
  | e :: es, ρ, S => match es with
    | [] => bndV (tstU (evU G cal e ρ S)) fun b S1 => some (.ok (.bl b) S1)
    | _ :: _ => bndV (tstU (evU G cal e ρ S)) fun b S1 => if b = true then evAndU G cal es ρ S1 else some (.ok (.bl false) S1)
def evOrU (G : Nat → Option U) (cal : CalU) : List E → LocU → Ps → Option (Rv U)
  | [], _, _ => none
  | e :: es, ρ, S => match es with
    | [] => bndV (tstU (evU G cal e ρ S)) fun b S1 => some (.ok (.bl b) S1)
    | _ :: _ => bndV (tstU (evU G cal e ρ S)) fun b S1 => if b = true then some (.ok (.bl true) S1) else evOrU G cal es ρ S1
def evTU (G : Nat → Option U) (cal : CalU) : List E → LocU → Ps → Option (Rv Bool)
  | [], _, S => some (.ok true S)
  | e :: es, ρ, S => bndV (tstU (evU G cal e ρ S)) fun b S1 => if b = true then evTU G cal es ρ S1 else some (.ok false S1)
def evOU (G : Nat → Option U) (cal : CalU) : Option E → LocU → Ps → Option (Rv (Option Int))
  | none, _, S => some (.ok none S)
  | some e, ρ, S => bndV (evU G cal e ρ S) fun d S1 => match d with
    | .int i => some (.ok (some i) S1)
    | _ => none
end
inductive OU where
  | nx (ρ : LocU) (S : Ps)
  | rt (d : U) (S : Ps)
  | ex (c : Nat) (v : U) (S : Ps)
def whlU (cond : LocU → Ps → Option (Rv Bool)) (body : LocU → Ps → Option OU) : Nat → LocU → Ps → Option OU
  | 0, _, _ => none
  | n + 1, ρ, S => match cond ρ S with
    | some (.ok true S1) => match body ρ S1 with
      | some (.nx ρ2 S2) => whlU cond body n ρ2 S2
      | some (.rt d S2) => some (.rt d S2)
      | some (.ex c v S2) => some (.ex c v S2)
      | none => none
    | some (.ok false S1) => some (.nx ρ S1)
    | some (.ex c v S1) => some (.ex c v S1)
    | none => none
def forU (t : Tg) (body : LocU → Ps → Option OU) : List U → LocU → Ps → Option OU
  | [], ρ, S => some (.nx ρ S)
  | x :: xs, ρ, S => match (setU ρ t x).bind fun ρ1 => body ρ1 S with
    | some (.nx ρ2 S2) => forU t body xs ρ2 S2
    | some (.rt d S2) => some (.rt d S2)
    | some (.ex c v S2) => some (.ex c v S2)
    | none => none
def ofU (x : Option (Rv U)) (k : U → Ps → Option OU) : Option OU := match x with
  | some (.ok d S) => k d S
  | some (.ex c v S) => some (.ex c v S)
  | none => none
/-- a list in a slot -/
def slot (ρ : LocU) (i : Nat) : Option (List U) := match ρ[i]? with
  | some (some (.lst xs)) => some xs
  | _ => none
mutual
def exU (G : Nat → Option U) (W : Nat) (cal : CalU) : Sm → LocU → Ps → Option OU
  | .asg t e, ρ, S => ofU (evU G cal e ρ S) fun d S1 => (setU ρ t d).map fun ρ1 => .nx ρ1 S1
  | .setIx (.var i) k e, ρ, S => (slot ρ i).bind fun xs => ofU (evU G cal e ρ S) fun v S1 => ofU (evU G cal k ρ S1) fun y S2 => match y with
    | .int n => (ixN xs.length n).map fun j => .nx (ρ.set i (some (.lst (xs.set j v)))) S2
    | _ => none
  | .setIx _ _ _, _, _ => none
  | .expr (.app (.var i) e), ρ, S => (slot ρ i).bind fun xs => ofU (evU G cal e ρ S) fun v S1 => if xs.length < sizeLine then some (.nx (ρ.set i (some (.lst (xs ++ [v])))) S1) else none
  | .expr (.ext (.var i) e), ρ, S => (slot ρ i).bind fun xs => ofU (evU G cal e ρ S) fun v S1 => match v with
    | .lst ys => if xs.length + ys.length ≤ sizeLine then some (.nx (ρ.set i (some (.lst (xs ++ ys)))) S1) else none
    | _ => none
  | .expr e, ρ, S => ofU (evU G cal e ρ S) fun _ S1 => some (.nx ρ S1)
  | .ret e, ρ, S => ofU (evU G cal e ρ S) fun d S1 => some (.rt d S1)
  | .ite c a b, ρ, S => match tstU (evU G cal c ρ S) with
    | some (.ok true S1) => exUs G W cal a ρ S1
    | some (.ok false S1) => exUs G W cal b ρ S1
    | some (.ex c v S1) => some (.ex c v S1)
    | none => none
  | .for_ t k its body, ρ, S => match evUs G cal its ρ S with
    | some (.ok ds S1) => match itU k ds with
      | some xs => forU t (fun ρ S => exUs G W cal body ρ S) xs ρ S1
      | none => none
    | some (.ex c v S1) => some (.ex c v S1)
    | none => none
  | .whl c body, ρ, S => whlU (fun ρ S => tstU (evU G cal c ρ S)) (fun ρ S => exUs G W cal body ρ S) W ρ S
  | .never, _, _ => none
def exUs (G : Nat → Option U) (W : Nat) (cal : CalU) : List Sm → LocU → Ps → Option OU
  | [], ρ, S => some (.nx ρ S)
  | s :: ss, ρ, S => match exU G W cal s ρ S with
    | some (.nx ρ1 S1) => exUs G W cal ss ρ1 S1
    | some (.rt d S1) => some (.rt d S1)
    | some (.ex c v S1) => some (.ex c v S1)
    | none => none
end
/-- the text: its defs, its names, its pots -/
structure Tx where
  T : Nat → Option Fd
  G : Nat → Option U
  W : Nat
  tk : Pt → Int → Option (Int × Pt)
  pot : List Int → Int → Option Pt
def takeU (X : Tx) (S : Ps) : List U → Option (Rv U)
  | [.pot k, .int u] => (S[k]?).bind fun s => (X.tk s u).map fun q => .ok (.int q.1) (S.set k q.2)
  | _ => none
def potU (X : Tx) (S : Ps) : List U → Option (Rv U)
  | [.frz ns, .int p] => (intsU ns).bind fun is => (X.pot is p).map fun s => .ok (.pot S.length) (S ++ [s])
  | _ => none
/-- def 0 takes from a pot, def 1 makes one -/
def calU (X : Tx) : Nat → CalU
  | 0, _, _, _ => none
  | n + 1, f, ds, S => match f with
    | 0 => takeU X S ds
    | 1 => potU X S ds
    | f => match X.T f with
      | some F => if ds.length = F.np then match exUs X.G X.W (calU X n) F.body (ds.map some ++ List.replicate (F.ns - ds.length) none) S with
          | some (.nx _ S1) => some (.ok .non S1)
          | some (.rt d S1) => some (.ok d S1)
          | some (.ex c v S1) => some (.ex c v S1)
          | none => none
        else none
      | none => none
end
end Pv

end
section
set_option Elab.async false
set_option linter.all false
set_option maxRecDepth 100000
set_option maxHeartbeats 1000000
/-! How values lie in the store. -/
namespace Pv
open PySem L2 Mi
abbrev Hid := Nat → Prop
def keyU : Key → U
  | .inl i => .int i
  | .inr x => .str x
mutual
def Rep (π : List Nat) (X : Hid) (S : Sto) : U → D → Prop
  | .non, d => d = .non
  | .bl b, d => d = .bl b
  | .int i, d => d = .int i
  | .str x, d => d = .str x
  | .tup us, d => ∃ ds, d = .tup ds ∧ Reps π X S us ds
  | .frz us, d => ∃ ds, d = .frz ds ∧ Reps π X S us ds
  | .lst us, d => ∃ r ds, d = .ref r ∧ ¬ X r ∧ r ∉ π ∧ S[r]? = some (.lst ds) ∧ Reps π X S us ds
  | .dct ks us, d => ∃ r kvs, d = .ref r ∧ ¬ X r ∧ r ∉ π ∧ S[r]? = some (.dct kvs) ∧ ks = kvs.map (fun q => keyU q.1) ∧ Reps π X S us (kvs.map (·.2))
  | .pot k, d => ∃ r, d = .ref r ∧ π[k]? = some r
def Reps (π : List Nat) (X : Hid) (S : Sto) : List U → List D → Prop
  | [], ds => ds = []
  | u :: us, ds => ∃ d es, ds = d :: es ∧ Rep π X S u d ∧ Reps π X S us es
end
/-- the object itself may be hidden -/
def RepW (π : List Nat) (X : Hid) (S : Sto) (u : U) (d : D) : Prop := match u with
  | .lst us => ∃ r ds, d = .ref r ∧ r ∉ π ∧ S[r]? = some (.lst ds) ∧ Reps π X S us ds
  | .dct ks us => ∃ r kvs, d = .ref r ∧ r ∉ π ∧ S[r]? = some (.dct kvs) ∧ ks = kvs.map (fun q => keyU q.1) ∧ Reps π X S us (kvs.map (·.2))
  | u => Rep π X S u d
def RepsW (π : List Nat) (X : Hid) (S : Sto) : List U → List D → Prop
  | [], ds => ds = []
  | u :: us, ds => ∃ d es, ds = d :: es ∧ RepW π X S u d ∧ RepsW π X S us es
structure Stp (π : List Nat) (S : Sto) (π' : List Nat) (S' : Sto) (Z : Hid) : Prop where
  len : S.length ≤ S'.length
  at_ : ∀ j, j < S.length → j ∉ π → ¬ Z j → S'[j]? = S[j]?
  pre : ∀ (k r : Nat), π[k]? = some r → π'[k]? = some r
  new : ∀ r, r ∈ π' → r ∈ π ∨ S.length ≤ r
abbrev noZ : Hid := fun _ => False
structure Bd (π : List Nat) (X : Hid) (S : Sto) : Prop where
  x : ∀ r, X r → r < S.length
  p : ∀ r, r ∈ π → r < S.length
section
variable {π π' π2 : List Nat} {X X' Z Z' : Hid} {S S' S2 : Sto}
theorem Stp.refl : Stp π S π S Z := ⟨Nat.le_refl _, fun _ _ _ _ => rfl, fun _ _ h => h, fun _ h => .inl h⟩
theorem Stp.trans (a : Stp π S π' S' Z) (b : Stp π' S' π2 S2 Z') (h : ∀ r, Z' r → Z r ∨ r ∈ π ∨ S.length ≤ r) : Stp π S π2 S2 Z :=
  ⟨Nat.le_trans a.len b.len, fun j hj hp hz => (b.at_ j (Nat.lt_of_lt_of_le hj a.len) (fun z => (a.new j z).elim hp fun z => by omega) (fun z => (h j z).elim hz fun z => z.elim hp fun z => by omega)).trans (a.at_ j hj hp hz),
   fun k r e => b.pre k r (a.pre k r e), fun r e => (b.new r e).elim (fun z => a.new r z) fun z => .inr (Nat.le_trans a.len z)⟩
theorem Stp.tr0 (a : Stp π S π' S' noZ) (b : Stp π' S' π2 S2 noZ) : Stp π S π2 S2 noZ := a.trans b fun _ z => z.elim
theorem Stp.more (T : Sto) : Stp π S π (S ++ T) Z := ⟨by simp, fun j hj _ _ => List.getElem?_append_left hj, fun _ _ h => h, fun _ h => .inl h⟩
theorem Stp.weak (a : Stp π S π' S' Z) (h : ∀ r, Z r → Z' r) : Stp π S π' S' Z' := ⟨a.len, fun j hj hp hz => a.at_ j hj hp fun z => hz (h j z), a.pre, a.new⟩
theorem Bd.mono (b : Bd π X S) (a : Stp π S π' S' Z) (hp : ∀ r ∈ π', r < S'.length) : Bd π' X S' := ⟨fun r h => Nat.lt_of_lt_of_le (b.x r h) a.len, hp⟩
theorem lt_of_at {r : Nat} {o : SO} (h : S[r]? = some o) : r < S.length := (List.getElem?_eq_some_iff.mp h).1
theorem Stp.keep {r : Nat} {o : SO} (a : Stp π S π' S' Z) (h : S[r]? = some o) (hp : r ∉ π) (hz : ¬ Z r) : S'[r]? = some o := (a.at_ r (lt_of_at h) hp hz).trans h
theorem Stp.out {r : Nat} {o : SO} (a : Stp π S π' S' Z) (h : S[r]? = some o) (hp : r ∉ π) : r ∉ π' := fun z => (a.new r z).elim hp fun z => by have := lt_of_at h; omega
mutual
theorem Rep.mono (a : Stp π S π' S' Z) (hz : ∀ r, Z r → X r) : ∀ (u : U) (d : D), Rep π X S u d → Rep π' X S' u d
  | .non, _, h => h
  | .bl _, _, h => h
  | .int _, _, h => h
  | .str _, _, h => h
  | .tup us, d, h => by
    obtain ⟨ds, e, h⟩ := h
    exact ⟨ds, e, Reps.mono a hz us ds h⟩
  | .frz us, d, h => by
    obtain ⟨ds, e, h⟩ := h
    exact ⟨ds, e, Reps.mono a hz us ds h⟩
  | .lst us, d, h => by
    obtain ⟨r, ds, e, h1, h2, h3, h⟩ := h
    exact ⟨r, ds, e, h1, a.out h3 h2, a.keep h3 h2 (fun z => h1 (hz r z)), Reps.mono a hz us ds h⟩
  | .dct ks us, d, h => by
    obtain ⟨r, ds, e, h1, h2, h3, h4, h⟩ := h
    exact ⟨r, ds, e, h1, a.out h3 h2, a.keep h3 h2 (fun z => h1 (hz r z)), h4, Reps.mono a hz us _ h⟩
  | .pot k, d, h => by
    obtain ⟨r, e, h⟩ := h
    exact ⟨r, e, a.pre k r h⟩
theorem Reps.mono (a : Stp π S π' S' Z) (hz : ∀ r, Z r → X r) : ∀ (us : List U) (ds : List D), Reps π X S us ds → Reps π' X S' us ds
  | [], _, h => h
  | u :: us, _, h => by
    obtain ⟨d, es, e, h1, h2⟩ := h
    exact ⟨d, es, e, Rep.mono a hz u d h1, Reps.mono a hz us es h2⟩
end
mutual
theorem Rep.sub (hx : ∀ r, X' r → X r) : ∀ (u : U) (d : D), Rep π X S u d → Rep π X' S u d
  | .non, _, h => h
  | .bl _, _, h => h
  | .int _, _, h => h
  | .str _, _, h => h
  | .tup us, d, h => by
    obtain ⟨ds, e, h⟩ := h
    exact ⟨ds, e, Reps.sub hx us ds h⟩
  | .frz us, d, h => by
    obtain ⟨ds, e, h⟩ := h
    exact ⟨ds, e, Reps.sub hx us ds h⟩
  | .lst us, d, h => by
    obtain ⟨r, ds, e, h1, h2, h3, h⟩ := h
    exact ⟨r, ds, e, fun z => h1 (hx r z), h2, h3, Reps.sub hx us ds h⟩
  | .dct ks us, d, h => by
    obtain ⟨r, ds, e, h1, h2, h3, h4, h⟩ := h
    exact ⟨r, ds, e, fun z => h1 (hx r z), h2, h3, h4, Reps.sub hx us _ h⟩
  | .pot k, d, h => h
theorem Reps.sub (hx : ∀ r, X' r → X r) : ∀ (us : List U) (ds : List D), Reps π X S us ds → Reps π X' S us ds
  | [], _, h => h
  | u :: us, _, h => by
    obtain ⟨d, es, e, h1, h2⟩ := h
    exact ⟨d, es, e, Rep.sub hx u d h1, Reps.sub hx us es h2⟩
end
theorem Rep.w {u : U} {d : D} (h : Rep π X S u d) : RepW π X S u d := by
  cases u with
  | lst us => obtain ⟨r, ds, e, _, h2, h3, h⟩ := h; exact ⟨r, ds, e, h2, h3, h⟩
  | dct ks us => obtain ⟨r, ds, e, _, h2, h3, h4, h⟩ := h; exact ⟨r, ds, e, h2, h3, h4, h⟩
  | _ => exact h
theorem RepW.mono (a : Stp π S π' S' noZ) {u : U} {d : D} (h : RepW π X S u d) : RepW π' X S' u d := by
  have hz : ∀ r, noZ r → X r := fun _ z => z.elim
  cases u with
  | lst us => obtain ⟨r, ds, e, h2, h3, h⟩ := h; exact ⟨r, ds, e, a.out h3 h2, a.keep h3 h2 id, Reps.mono a hz _ _ h⟩
  | dct ks us => obtain ⟨r, ds, e, h2, h3, h4, h⟩ := h; exact ⟨r, ds, e, a.out h3 h2, a.keep h3 h2 id, h4, Reps.mono a hz _ _ h⟩
  | _ => exact Rep.mono a hz _ _ h
theorem RepW.sub (hx : ∀ r, X' r → X r) {u : U} {d : D} (h : RepW π X S u d) : RepW π X' S u d := by
  cases u with
  | lst us => obtain ⟨r, ds, e, h2, h3, h⟩ := h; exact ⟨r, ds, e, h2, h3, Reps.sub hx _ _ h⟩
  | dct ks us => obtain ⟨r, ds, e, h2, h3, h4, h⟩ := h; exact ⟨r, ds, e, h2, h3, h4, Reps.sub hx _ _ h⟩
  | _ => exact Rep.sub hx _ _ h
theorem RepsW.mono (a : Stp π S π' S' noZ) : ∀ {us : List U} {ds : List D}, RepsW π X S us ds → RepsW π' X S' us ds
  | [], _, h => h
  | u :: us, _, h => by obtain ⟨d, es, e, h1, h2⟩ := h; exact ⟨d, es, e, h1.mono a, RepsW.mono a h2⟩
theorem RepsW.sub (hx : ∀ r, X' r → X r) : ∀ {us : List U} {ds : List D}, RepsW π X S us ds → RepsW π X' S us ds
  | [], _, h => h
  | u :: us, _, h => by obtain ⟨d, es, e, h1, h2⟩ := h; exact ⟨d, es, e, h1.sub hx, RepsW.sub hx h2⟩
/-! ### lists -/
theorem Reps.nil : Reps π X S [] [] := rfl
theorem Reps.cons {u : U} {d : D} {us : List U} {ds : List D} (a : Rep π X S u d) (b : Reps π X S us ds) : Reps π X S (u :: us) (d :: ds) := ⟨d, ds, rfl, a, b⟩
theorem Reps.length : ∀ {us : List U} {ds : List D}, Reps π X S us ds → ds.length = us.length
  | [], _, h => by
    have h : _ = [] := h
    rw [h]; rfl
  | u :: us, _, h => by
    obtain ⟨d, es, e, h1, h2⟩ := h
    rw [e, List.length_cons, List.length_cons, Reps.length h2]
theorem Reps.append : ∀ {us vs : List U} {ds es : List D}, Reps π X S us ds → Reps π X S vs es → Reps π X S (us ++ vs) (ds ++ es)
  | [], _, _, _, h, q => by
    have h : _ = [] := h
    rw [h]; exact q
  | u :: us, _, _, _, h, q => by
    obtain ⟨d, es, e, h1, h2⟩ := h
    rw [e]
    exact Reps.cons h1 (Reps.append h2 q)
theorem Reps.get : ∀ {us : List U} {ds : List D} {i : Nat} {u : U}, Reps π X S us ds → us[i]? = some u → ∃ d, ds[i]? = some d ∧ Rep π X S u d
  | [], _, _, _, _, e => by simp at e
  | x :: us, _, 0, u, h, e => by
    obtain ⟨v, ws, e1, h1, h2⟩ := h
    rw [e1]
    simp at e
    subst e
    exact ⟨v, rfl, h1⟩
  | x :: us, _, i + 1, u, h, e => by
    obtain ⟨v, ws, e1, h1, h2⟩ := h
    rw [e1]
    obtain ⟨w, q1, q2⟩ := Reps.get (i := i) h2 (by simpa using e)
    exact ⟨w, by simpa using q1, q2⟩
theorem Reps.set {u : U} {d : D} (r : Rep π X S u d) : ∀ {us : List U} {ds : List D} (i : Nat), Reps π X S us ds → Reps π X S (us.set i u) (ds.set i d)
  | [], _, i, h => by
    have h : _ = [] := h
    rw [h]; exact Reps.nil
  | x :: us, _, 0, h => by
    obtain ⟨v, ws, e1, h1, h2⟩ := h
    rw [e1]; exact Reps.cons r h2
  | x :: us, _, i + 1, h => by
    obtain ⟨v, ws, e1, h1, h2⟩ := h
    rw [e1]; exact Reps.cons h1 (Reps.set r i h2)
theorem Reps.take : ∀ {us : List U} {ds : List D} (n : Nat), Reps π X S us ds → Reps π X S (us.take n) (ds.take n)
  | _, _, 0, _ => by simp; exact Reps.nil
  | [], _, n + 1, h => by
    have h : _ = [] := h
    rw [h]; exact Reps.nil
  | x :: us, _, n + 1, h => by
    obtain ⟨v, ws, e1, h1, h2⟩ := h
    rw [e1]; exact Reps.cons h1 (Reps.take n h2)
theorem Reps.drop : ∀ {us : List U} {ds : List D} (n : Nat), Reps π X S us ds → Reps π X S (us.drop n) (ds.drop n)
  | _, _, 0, h => by simpa using h
  | [], _, n + 1, h => by
    have h : _ = [] := h
    rw [h]; exact Reps.nil
  | x :: us, _, n + 1, h => by
    obtain ⟨v, ws, e1, h1, h2⟩ := h
    rw [e1]; simpa using Reps.drop n h2
theorem Reps.reverse : ∀ {us : List U} {ds : List D}, Reps π X S us ds → Reps π X S us.reverse ds.reverse
  | [], _, h => by
    have h : _ = [] := h
    rw [h]; exact Reps.nil
  | x :: us, _, h => by
    obtain ⟨v, ws, e1, h1, h2⟩ := h
    rw [e1, List.reverse_cons, List.reverse_cons]
    exact Reps.append (Reps.reverse h2) (Reps.cons h1 Reps.nil)
theorem Reps.cut {us : List U} {ds : List D} (h : Reps π X S us ds) (lo hi : Option Int) : Reps π X S (cutU us lo hi) (cutD ds lo hi) := by
  unfold cutU cutD
  rw [h.length]
  exact (h.drop _).take _
theorem Reps.ints : ∀ is : List Int, Reps π X S (is.map U.int) (is.map D.int)
  | [] => Reps.nil
  | i :: is => Reps.cons rfl (Reps.ints is)
theorem Reps.at_ {us : List U} {ds : List D} {i : Int} {u : U} (h : Reps π X S us ds) (e : L2.atI us i = some u) : ∃ d, L2.atI ds i = some d ∧ Rep π X S u d := by
  unfold L2.atI at *
  rw [h.length]
  cases q : ixN us.length i with
  | none => rw [q] at e; cases e
  | some j => rw [q] at e; exact h.get (i := j) e
theorem Reps.ints_of : ∀ {us : List U} {ds : List D} {is : List Int}, Reps π X S us ds → intsU us = some is → intsOf ds = some is ∧ ds = is.map D.int
  | [], _, _, h, e => by
    have h : _ = [] := h
    cases e
    rw [h]
    exact ⟨rfl, rfl⟩
  | u :: us, _, is, h, e => by
    obtain ⟨d, es, e1, h1, h2⟩ := h
    cases u with
    | int i =>
      have h1 : d = .int i := h1
      have e : (intsU us).map (fun js => i :: js) = some is := e
      cases q : intsU us with
      | none => rw [q] at e; cases e
      | some js =>
        rw [q] at e
        cases e
        obtain ⟨a, b⟩ := Reps.ints_of h2 q
        subst e1 h1
        refine ⟨?_, by rw [List.map_cons, ← b]⟩
        show (intsOf es).map (fun js => i :: js) = _
        rw [a]
        rfl
    | _ => cases e
theorem Reps.bls_of : ∀ {us : List U} {ds : List D} {is : List Bool}, Reps π X S us ds → blsU us = some is → blsOf ds = some is
  | [], _, _, h, e => by
    have h : _ = [] := h
    cases e
    rw [h]
    rfl
  | u :: us, _, is, h, e => by
    obtain ⟨d, es, e1, h1, h2⟩ := h
    cases u with
    | bl i =>
      have h1 : d = .bl i := h1
      have e : (blsU us).map (fun js => i :: js) = some is := e
      cases q : blsU us with
      | none => rw [q] at e; cases e
      | some js =>
        rw [q] at e
        cases e
        have a := Reps.bls_of h2 q
        subst e1 h1
        show (blsOf es).map (fun js => i :: js) = _
        rw [a]
        rfl
    | _ => cases e
/-! ### its data -/
theorem toPs_map : ∀ us : List U, U.toPs us = us.map U.toP
  | [] => by rw [U.toPs]; rfl
  | u :: us => by rw [U.toPs, toPs_map us]; rfl
theorem tkey_key (k : Key) : (keyU k).toP = tkey k := by cases k <;> (rw [keyU, U.toP]; rfl)
theorem toPs_keys (kvs : List (Key × D)) : U.toPs (kvs.map fun q => keyU q.1) = kvs.map fun q => tkey q.1 := by
  rw [toPs_map, List.map_map]
  exact List.map_congr_left fun q _ => tkey_key q.1
mutual
theorem Rep.py : ∀ (u : U) (d : D) (n : Nat), n ≤ 8 → Rep π X S u d → u.rd ≤ n → toPyW (toPyR S n) d = some u.toP
  | .non, d, n, _, h, _ => by
    have h : d = .non := h
    rw [h, toPyW, U.toP]
  | .bl b, d, n, _, h, _ => by
    have h : d = .bl b := h
    rw [h, toPyW, U.toP]
  | .int i, d, n, _, h, _ => by
    have h : d = .int i := h
    rw [h, toPyW, U.toP]
  | .str x, d, n, _, h, _ => by
    have h : d = .str x := h
    rw [h, toPyW, U.toP]
  | .tup us, d, n, hn, h, hd => by
    obtain ⟨ds, e, h⟩ := h
    rw [U.rd] at hd
    rw [e, toPyW, U.toP, Reps.py us ds n hn h hd]
    rfl
  | .frz us, d, n, hn, h, hd => by
    obtain ⟨ds, e, h⟩ := h
    rw [U.rd] at hd
    rw [e, toPyW, U.toP, Reps.py us ds n hn h hd]
    rfl
  | .lst us, d, n, hn, h, hd => by
    obtain ⟨r, ds, e, h1, h2, h3, h⟩ := h
    rw [U.rd] at hd
    obtain ⟨m, rfl⟩ : ∃ m, n = m + 1 := ⟨n - 1, by omega⟩
    rw [e, toPyW, toPyR, h3, U.toP]
    dsimp only
    rw [Reps.py us ds m (by omega) h (by omega)]
    rfl
  | .dct ks us, d, n, hn, h, hd => by
    obtain ⟨r, kvs, e, h1, h2, h3, h4, h⟩ := h
    rw [U.rd] at hd
    obtain ⟨m, rfl⟩ : ∃ m, n = m + 1 := ⟨n - 1, by omega⟩
    rw [e, toPyW, toPyR, h3, U.toP]
    dsimp only
    rw [Reps.py us _ m (by omega) h (by omega), h4, toPs_keys]
    rfl
  | .pot k, d, n, hn, h, hd => by
    rw [U.rd] at hd
    omega
theorem Reps.py : ∀ (us : List U) (ds : List D) (n : Nat), n ≤ 8 → Reps π X S us ds → U.rds us ≤ n → toPysW (toPyR S n) ds = some (U.toPs us)
  | [], ds, n, _, h, _ => by
    have h : ds = [] := h
    rw [h, toPysW, U.toPs]
  | u :: us, _, n, hn, h, hd => by
    obtain ⟨d, es, e, h1, h2⟩ := h
    rw [U.rds] at hd
    rw [e, toPysW, Rep.py u d n hn h1 (by omega), Reps.py us es n hn h2 (by omega), U.toPs]
    rfl
end
theorem RepW.py {u : U} {d : D} (h : RepW π X S u d) (hd : u.rd ≤ 8) : toPy S d = some u.toP := by
  cases u with
  | lst us =>
    obtain ⟨r, ds, e, h2, h3, h⟩ := h
    rw [U.rd] at hd
    unfold toPy
    rw [e, toPyW, toPyR, h3, U.toP]
    dsimp only
    rw [Reps.py us ds 7 (by omega) h (by omega)]
    rfl
  | dct ks us =>
    obtain ⟨r, ds, e, h2, h3, h4, h⟩ := h
    rw [U.rd] at hd
    unfold toPy
    rw [e, toPyW, toPyR, h3, U.toP]
    dsimp only
    rw [Reps.py us _ 7 (by omega) h (by omega), h4, toPs_keys]
    rfl
  | _ => exact Rep.py (π := π) (X := X) _ _ 8 (Nat.le_refl _) h hd
/-! ### flat values -/
theorem Rep.flat {u : U} {d : D} (h : Rep π X S u d) (f : flatU u = true) : flat d = true ∧ fV d = fU u := by
  cases u <;> first | (cases f; done) | (cases h; exact ⟨rfl, rfl⟩)
theorem Reps.flats : ∀ {us : List U} {ds : List D}, Reps π X S us ds → us.all flatU = true → ds.all flat = true ∧ ds.map fV = us.map fU
  | [], _, h, _ => by
    have h : _ = [] := h
    rw [h]; exact ⟨rfl, rfl⟩
  | u :: us, _, h, f => by
    obtain ⟨d, es, e, h1, h2⟩ := h
    rw [List.all_cons, Bool.and_eq_true] at f
    obtain ⟨a1, a2⟩ := Rep.flat h1 f.1
    obtain ⟨b1, b2⟩ := Reps.flats h2 f.2
    rw [e]
    exact ⟨by rw [List.all_cons, a1, b1]; rfl, by rw [List.map_cons, List.map_cons, a2, b2]⟩
theorem RepW.flat {u : U} {d : D} (h : RepW π X S u d) (f : flatU u = true) : Mi.flat d = true ∧ fV d = fU u := by
  cases u <;> first | (cases f; done) | exact Rep.flat (π := π) (X := X) (S := S) h f
end
end Pv

end
section
set_option Elab.async false
set_option linter.all false
set_option maxRecDepth 100000
set_option maxHeartbeats 1000000
/-! What is done with values is done with what lies in the store. -/
namespace Pv
open PySem L2 Mi
def FreshN (N : Nat) (d : D) : Prop := ∀ r, d = .ref r → N ≤ r
section
variable {π π' π2 : List Nat} {X X' Z Z' : Hid} {S S' S2 : Sto} {x y z : U} {dx dy : D}
theorem Rep.add (T : Sto) {u : U} {d : D} (h : Rep π X S u d) : Rep π X (S ++ T) u d := Rep.mono (Z := noZ) (Stp.more T) (fun _ z => z.elim) u d h
theorem Reps.add (T : Sto) {us : List U} {ds : List D} (h : Reps π X S us ds) : Reps π X (S ++ T) us ds := Reps.mono (Z := noZ) (Stp.more T) (fun _ z => z.elim) us ds h
theorem Bd.new (hb : Bd π X S) : ¬ X S.length ∧ S.length ∉ π := ⟨fun h => Nat.lt_irrefl _ (hb.x _ h), fun h => Nat.lt_irrefl _ (hb.p _ h)⟩
theorem Rep.new_lst (hb : Bd π X S) {us : List U} {ds : List D} (h : Reps π X S us ds) : Rep π X (S ++ [.lst ds]) (.lst us) (.ref S.length) :=
  ⟨S.length, ds, rfl, hb.new.1, hb.new.2, by simp, h.add _⟩
theorem app0 (S : Sto) : S ++ [] = S := List.append_nil S
mutual
theorem Rep.bound : ∀ (u : U) (d : D), Rep π X S u d → Rep π (fun r => X r ∨ S.length ≤ r) S u d
  | .non, _, h => h
  | .bl _, _, h => h
  | .int _, _, h => h
  | .str _, _, h => h
  | .tup us, d, h => by
    obtain ⟨ds, e, h⟩ := h
    exact ⟨ds, e, Reps.bound us ds h⟩
  | .frz us, d, h => by
    obtain ⟨ds, e, h⟩ := h
    exact ⟨ds, e, Reps.bound us ds h⟩
  | .lst us, d, h => by
    obtain ⟨r, ds, e, h1, h2, h3, h⟩ := h
    exact ⟨r, ds, e, fun z => z.elim h1 fun z => by have := lt_of_at h3; omega, h2, h3, Reps.bound us ds h⟩
  | .dct ks us, d, h => by
    obtain ⟨r, ds, e, h1, h2, h3, h4, h⟩ := h
    exact ⟨r, ds, e, fun z => z.elim h1 fun z => by have := lt_of_at h3; omega, h2, h3, h4, Reps.bound us _ h⟩
  | .pot k, d, h => h
theorem Reps.bound : ∀ (us : List U) (ds : List D), Reps π X S us ds → Reps π (fun r => X r ∨ S.length ≤ r) S us ds
  | [], _, h => h
  | u :: us, _, h => by
    obtain ⟨d, es, e, h1, h2⟩ := h
    exact ⟨d, es, e, Rep.bound u d h1, Reps.bound us es h2⟩
end
/-- new, and of what was there before -/
def FreshP (π : List Nat) (X : Hid) (S T : Sto) (z : U) (d : D) : Prop := FreshN S.length d ∧ RepW π (fun r => X r ∨ S.length ≤ r) (S ++ T) z d
theorem fresh_new (hb : Bd π X S) {us : List U} {ds : List D} (h : Reps π X S us ds) : FreshP π X S [.lst ds] (.lst us) (.ref S.length) :=
  ⟨fun r h => by cases h; exact Nat.le_refl _, S.length, ds, rfl, hb.new.2, by simp, (h.bound).add _⟩
theorem fresh_int {T : Sto} {i : Int} : FreshP π X S T (.int i) (.int i) := ⟨fun r h => (by cases h), rfl⟩
theorem fresh_str {T : Sto} {i : Str} : FreshP π X S T (.str i) (.str i) := ⟨fun r h => (by cases h), rfl⟩
theorem fresh_bl {T : Sto} {i : Bool} : FreshP π X S T (.bl i) (.bl i) := ⟨fun r h => (by cases h), rfl⟩
theorem fresh_tup {us : List U} {ds : List D} (h : Reps π X S us ds) : FreshP π X S [] (.tup us) (.tup ds) := ⟨fun r h => (by cases h), by rw [app0]; exact ⟨ds, rfl, h.bound⟩⟩
theorem lstAt_iff {r : Nat} {ds : List D} (h : S[r]? = some (.lst ds)) : lstAt S r = some ds := by unfold lstAt; rw [h]
theorem seq_sim {us : List U} (h : RepW π X S x dx) (e : seqU x = some us) : ∃ ds, seqAt S dx = some ds ∧ Reps π X S us ds := by
  cases x with
  | tup vs => cases e; obtain ⟨ds, rfl, h⟩ := h; exact ⟨ds, rfl, h⟩
  | frz vs => cases e; obtain ⟨ds, rfl, h⟩ := h; exact ⟨ds, rfl, h⟩
  | lst vs => cases e; obtain ⟨r, ds, rfl, h2, h3, h⟩ := h; exact ⟨ds, lstAt_iff h3, h⟩
  | _ => cases e
theorem op_sim {o : Op2} (hb : Bd π X S) (hx : RepW π X S x dx) (hy : RepW π X S y dy) (h : opU o x y = some z) :
    ∃ d T, opD S o dx dy = some (d, S ++ T) ∧ Rep π X (S ++ T) z d ∧ FreshP π X S T z d := by
  unfold opU at h
  split at h
  · cases h; cases hx; cases hy; exact ⟨_, [], by rw [app0]; rfl, rfl, fresh_int⟩
  · split at h
    · rename_i g; cases h; cases hx; cases hy; exact ⟨_, [], by rw [app0]; exact if_pos g, rfl, fresh_str⟩
    · cases h
  · split at h
    · rename_i g
      cases h
      obtain ⟨ds, rfl, a⟩ := hx
      obtain ⟨es, rfl, b⟩ := hy
      rw [← a.length, ← b.length] at g
      exact ⟨_, [], by rw [app0]; exact if_pos g, by rw [app0]; exact ⟨_, rfl, a.append b⟩, fresh_tup (a.append b)⟩
    · cases h
  · split at h
    · rename_i g
      cases h
      obtain ⟨r, ds, rfl, a2, a3, a⟩ := hx
      obtain ⟨q, es, rfl, b2, b3, b⟩ := hy
      rw [← a.length, ← b.length] at g
      refine ⟨.ref S.length, [.lst (ds ++ es)], ?_, Rep.new_lst hb (a.append b), fresh_new hb (a.append b)⟩
      show (match S[r]?, S[q]? with
        | some (.lst xs), some (.lst ys) => if xs.length + ys.length ≤ sizeLine then some (D.ref S.length, S ++ [SO.lst (xs ++ ys)]) else none
        | _, _ => none) = _
      rw [a3, b3]
      exact if_pos g
    · cases h
  · cases h; cases hx; cases hy; exact ⟨_, [], by rw [app0]; rfl, rfl, fresh_int⟩
  · split at h
    · rename_i g; cases h; cases hx; cases hy; exact ⟨_, [], by rw [app0]; first | exact if_pos g | exact if_pos (stk_iff.mp g), rfl, fresh_int⟩
    · cases h
  · split at h
    · rename_i g; cases h; cases hx; cases hy; exact ⟨_, [], by rw [app0]; first | exact if_pos g | exact if_pos (stk_iff.mp g), rfl, fresh_int⟩
    · cases h
  · split at h
    · rename_i g; cases h; cases hx; cases hy; exact ⟨_, [], by rw [app0]; first | exact if_pos g | exact if_pos (stk_iff.mp g), rfl, fresh_int⟩
    · cases h
  · split at h
    · rename_i g; cases h; cases hx; cases hy; exact ⟨_, [], by rw [app0]; first | exact if_pos g | exact if_pos (stk_iff.mp g), rfl, fresh_int⟩
    · cases h
  · cases h
theorem RepW.str_inv {a : Str} (h : RepW π X S x (.str a)) : x = .str a := by
  cases x with
  | str b =>
    have h : D.str a = .str b := h
    cases h
    rfl
  | non => cases h
  | bl b => cases h
  | int b => cases h
  | tup b => obtain ⟨_, e, _⟩ := h; cases e
  | frz b => obtain ⟨_, e, _⟩ := h; cases e
  | lst b => obtain ⟨_, _, e, _⟩ := h; cases e
  | dct b c => obtain ⟨_, _, e, _⟩ := h; cases e
  | pot b => obtain ⟨_, e, _⟩ := h; cases e
theorem eq_sim {b : Bool} (hx : RepW π X S x dx) (hy : RepW π X S y dy) (h : eqU x y = some b) : eqD S dx dy = some b := by
  unfold eqU at h
  split at h
  · cases h; cases hx; cases hy; rfl
  · rename_i g
    split at h
    · rename_i q
      cases h
      refine eqD_of (hx.py q.1) (hy.py q.2.1) q.2.2 ?_
      cases dx with
      | str a =>
        cases dy with
        | str c => exact absurd hy.str_inv (g a c hx.str_inv)
        | _ => exact .inr rfl
      | _ => exact .inl rfl
    · cases h
theorem in_sim {b : Bool} {ys : List U} {es : List D} (hx : RepW π X S x dx) (hy : Reps π X S ys es) (h : inU x ys = some b) : inD dx es = some b := by
  unfold inU at h
  split at h
  · rename_i g
    cases h
    rw [Bool.and_eq_true] at g
    obtain ⟨a1, a2⟩ := hx.flat g.1
    obtain ⟨b1, b2⟩ := hy.flats g.2
    unfold inD
    rw [if_pos (by rw [a1, b1]; rfl), a2, b2]
  · cases h
theorem non_sim (h : RepW π X S x dx) : isNonD dx = isNonU x := by
  cases x with
  | non => cases h; rfl
  | bl b => cases h; rfl
  | int b => cases h; rfl
  | str b => cases h; rfl
  | tup b => obtain ⟨_, rfl, _⟩ := h; rfl
  | frz b => obtain ⟨_, rfl, _⟩ := h; rfl
  | lst b => obtain ⟨_, _, rfl, _⟩ := h; rfl
  | dct b c => obtain ⟨_, _, rfl, _⟩ := h; rfl
  | pot b => obtain ⟨_, rfl, _⟩ := h; rfl
theorem seq_none (h : RepW π X S x dx) (hr : x.rd ≤ 8) (e : seqU x = none) : seqAt S dx = none := by
  cases x with
  | non => cases h; rfl
  | bl b => cases h; rfl
  | int b => cases h; rfl
  | str b => cases h; rfl
  | tup vs => cases e
  | frz vs => cases e
  | lst vs => cases e
  | dct b c =>
    obtain ⟨r, kvs, rfl, _, h3, _⟩ := h
    show lstAt S r = none
    unfold lstAt
    rw [h3]
  | pot b => rw [U.rd] at hr; omega
theorem flat_back (h : RepW π X S x dx) (f : flat dx = true) : flatU x = true := by
  cases x with
  | non => rfl
  | bl b => rfl
  | int b => rfl
  | str b => rfl
  | tup vs => obtain ⟨_, rfl, _⟩ := h; cases f
  | frz vs => obtain ⟨_, rfl, _⟩ := h; cases f
  | lst vs => obtain ⟨_, _, rfl, _⟩ := h; cases f
  | dct b c => obtain ⟨_, _, rfl, _⟩ := h; cases f
  | pot b => obtain ⟨_, rfl, _⟩ := h; cases f
theorem flats_back : ∀ {us : List U} {ds : List D}, Reps π X S us ds → ds.all flat = true → us.all flatU = true
  | [], _, _, _ => rfl
  | u :: us, _, h, f => by
    obtain ⟨d, es, e, h1, h2⟩ := h
    rw [e, List.all_cons, Bool.and_eq_true] at f
    rw [List.all_cons, flat_back h1.w f.1, flats_back h2 f.2]
    rfl
theorem inS_sim {b : Bool} (hx : RepW π X S x dx) (hy : RepW π X S y dy) (h : inSU x y = some b) : inS S dx dy = some b := by
  unfold inSU at h
  split at h
  · rename_i b0 e0
    cases h
    obtain ⟨us, q, e0⟩ := Option.bind_eq_some_iff.mp e0
    obtain ⟨es, e, r⟩ := seq_sim hy q
    unfold inS
    rw [e]
    show (match inD dx es with | some b => some b | none => inDeep S dx dy) = _
    rw [in_sim hx r e0]
  · rename_i e0
    unfold inDeepU at h
    split at h
    · rename_i hr
      have px := hx.py hr.1
      have py := hy.py hr.2
      have deep : inDeep S dx dy = some b := by
        unfold inDeep
        rw [px, py]
        exact h
      unfold inS
      split
      · rename_i b1 e1
        exfalso
        obtain ⟨es, e2, e3⟩ := Option.bind_eq_some_iff.mp e1
        cases q : seqU y with
        | none => rw [seq_none hy hr.2 q] at e2; cases e2
        | some us =>
          obtain ⟨es', e4, r⟩ := seq_sim hy q
          rw [e2] at e4
          cases e4
          unfold inD at e3
          split at e3
          · rename_i g
            rw [Bool.and_eq_true] at g
            rw [q] at e0
            have e0 : inU x us = none := e0
            unfold inU at e0
            rw [if_pos (by rw [flat_back hx g.1, flats_back r g.2]; rfl)] at e0
            cases e0
          · cases e3
      · exact deep
    · cases h
theorem cmp_sim {c : Cm} {b : Bool} (hx : RepW π X S x dx) (hy : RepW π X S y dy) (h : cmpU c x y = some b) : cmpD S c dx dy = some b := by
  unfold cmpU at h
  split at h
  · cases hx; cases hy; exact h
  · cases hx; cases hy; exact h
  · cases hx; cases hy; exact h
  · cases hx; cases hy; exact h
  · exact eq_sim hx hy h
  · show (eqD S dx dy).map (fun b => !b) = some b
    cases q : eqU x y with
    | none => rw [q] at h; cases h
    | some a => rw [q] at h; rw [eq_sim hx hy q]; exact h
  · cases hy; rw [cv_isN, non_sim hx]; exact h
  · cases hy; rw [cv_notN, non_sim hx]; exact h
  · exact inS_sim hx hy h
  · show (inS S dx dy).map (fun b => !b) = some b
    cases q : inSU x y with
    | none => rw [q] at h; cases h
    | some a => rw [q] at h; rw [inS_sim hx hy q]; exact h
  · cases h
theorem ix_sim (hx : RepW π X S x dx) (hy : RepW π X S y dy) (h : ixU x y = some z) : ∃ d, ixD S dx dy = some d ∧ Rep π X S z d := by
  unfold ixU at h
  split at h
  · cases hx; cases hy
    split at h
    · rename_i g
      obtain ⟨c, q, e⟩ := Option.map_eq_some_iff.mp h
      cases e
      refine ⟨_, ?_, rfl⟩
      show (if _ then _ else _) = _
      rw [if_pos g, q]
      rfl
    · cases h
  · rename_i ii hns
    cases hy
    cases q : seqU x with
    | none => rw [q] at h; cases h
    | some us =>
      rw [q] at h
      obtain ⟨es, e, r⟩ := seq_sim hx q
      obtain ⟨d, e2, r2⟩ := r.at_ h
      refine ⟨d, ?_, r2⟩
      have : ixD S dx (.int ii) = (seqAt S dx).bind fun xs => L2.atI xs ii := by
        cases dx with
        | str a => exact absurd hx.str_inv (fun e => hns a e)
        | _ => rfl
      rw [this, e]
      exact e2
  · cases h
theorem slc_sim (hb : Bd π X S) {lo hi : Option Int} (hx : RepW π X S x dx) (h : slcU x lo hi = some z) : ∃ d T, slcD S dx lo hi = some (d, S ++ T) ∧ Rep π X (S ++ T) z d ∧ FreshP π X S T z d := by
  cases x with
  | tup vs => cases h; obtain ⟨ds, rfl, h⟩ := hx; exact ⟨_, [], by rw [app0]; rfl, by rw [app0]; exact ⟨_, rfl, h.cut lo hi⟩, fresh_tup (h.cut lo hi)⟩
  | frz vs => cases h; obtain ⟨ds, rfl, h⟩ := hx; exact ⟨_, _, rfl, Rep.new_lst hb (h.cut lo hi), fresh_new hb (h.cut lo hi)⟩
  | lst vs =>
    cases h
    obtain ⟨r, ds, rfl, h2, h3, h⟩ := hx
    refine ⟨.ref S.length, [.lst (cutD ds lo hi)], ?_, Rep.new_lst hb (h.cut lo hi), fresh_new hb (h.cut lo hi)⟩
    show (lstAt S r).map _ = _
    rw [lstAt_iff h3]
    rfl
  | _ => cases h
theorem rev_sim (hx : RepW π X S x dx) (h : revU x = some z) : ∃ d, revD S dx = some (d, S) ∧ Rep π X S z d := by
  cases x with
  | tup vs => cases h; obtain ⟨ds, rfl, h⟩ := hx; exact ⟨_, rfl, _, rfl, h.reverse⟩
  | _ => cases h
theorem ty_sim {t : String} (hx : RepW π X S x dx) (h : tyU x = some t) : tyD S dx = some t := by
  cases x with
  | non => cases hx; exact h
  | bl b => cases hx; exact h
  | int b => cases hx; exact h
  | str b => cases hx; exact h
  | tup b => obtain ⟨_, rfl, _⟩ := hx; exact h
  | frz b => obtain ⟨_, rfl, _⟩ := hx; exact h
  | lst b =>
    obtain ⟨r, ds, rfl, h2, h3, _⟩ := hx
    show (match S[r]? with | some (.lst _) => some "list" | some (.dct _) => some "dict" | none => none) = _
    rw [h3]
    exact h
  | dct b c =>
    obtain ⟨r, ds, rfl, h2, h3, _⟩ := hx
    show (match S[r]? with | some (.lst _) => some "list" | some (.dct _) => some "dict" | none => none) = _
    rw [h3]
    exact h
  | pot b => cases h
theorem repr_sim {s : Str} (hx : RepW π X S x dx) (h : reprU x = some s) : reprD S dx = some s := by
  unfold reprU at h
  split at h
  · rename_i g
    cases h
    unfold reprD
    rw [hx.py g.1]
    exact if_pos g.2
  · cases h
theorem Reps.rg (f : Nat → Int) (l : List Nat) : Reps π X S (l.map fun i => U.int (f i)) (l.map fun i => D.int (f i)) := by
  have a : (l.map fun i => U.int (f i)) = (l.map f).map U.int := by rw [List.map_map]; rfl
  have b : (l.map fun i => D.int (f i)) = (l.map f).map D.int := by rw [List.map_map]; rfl
  rw [a, b]
  exact Reps.ints _
theorem repsW1 {us : List U} {ds : List D} {u : U} (h : RepsW π X S (u :: us) ds) : ∃ d es, ds = d :: es ∧ RepW π X S u d ∧ RepsW π X S us es := h
theorem repsW0 {ds : List D} (h : RepsW π X S [] ds) : ds = [] := h
theorem seqAt_len {ds : List D} (e : seqAt S dx = some ds) : biD S .len [dx] = some (.int ds.length, S) := by
  cases dx with
  | tup b => cases e; rfl
  | frz b => cases e; rfl
  | ref r => show (seqAt S (.ref r)).map _ = _; rw [e]; rfl
  | _ => cases e
theorem seqAt_lst {ds : List D} (e : seqAt S dx = some ds) : biD S .lst [dx] = some (.ref S.length, S ++ [.lst ds]) := by
  show (seqAt S dx).map _ = _
  rw [e]
  rfl
theorem seqAt_tuple {ds : List D} (e : seqAt S dx = some ds) : biD S .tuple [dx] = some (.tup ds, S) := by
  show (seqAt S dx).map _ = _
  rw [e]
  rfl
theorem bi_sim (hb : Bd π X S) {b : Bi} {us : List U} {ds : List D} (hx : RepsW π X S us ds) (h : biU b us = some z) : ∃ d T, biD S b ds = some (d, S ++ T) ∧ Rep π X (S ++ T) z d ∧ FreshP π X S T z d := by
  unfold biU at h
  split at h
  · obtain ⟨d, es, rfl, h1, h2⟩ := repsW1 hx
    cases repsW0 h2
    cases h1
    split at h
    · rename_i g; cases h; exact ⟨_, [], by rw [app0]; exact if_pos g, rfl, fresh_int⟩
    · cases h
  · obtain ⟨d, es, rfl, h1, h2⟩ := repsW1 hx
    cases repsW0 h2
    obtain ⟨vs, q, e⟩ := Option.map_eq_some_iff.mp h
    cases e
    obtain ⟨fs, e, r⟩ := seq_sim h1 q
    exact ⟨_, [], by rw [app0, seqAt_len e, r.length], rfl, fresh_int⟩
  · obtain ⟨d, es, rfl, h1, h2⟩ := repsW1 hx
    cases repsW0 h2
    cases h1
    cases h
    exact ⟨_, [], by rw [app0]; rfl, rfl, fresh_int⟩
  · obtain ⟨d, es, rfl, h1, h2⟩ := repsW1 hx
    cases repsW0 h2
    cases h1
    cases h
    exact ⟨_, [], by rw [app0]; rfl, rfl, fresh_int⟩
  · obtain ⟨d, es, rfl, h1, h2⟩ := repsW1 hx
    cases repsW0 h2
    cases h1
    cases h
    exact ⟨_, [], by rw [app0]; rfl, rfl, fresh_int⟩
  · obtain ⟨d, es, rfl, h1, h2⟩ := repsW1 hx
    obtain ⟨d2, es2, rfl, h3, h4⟩ := repsW1 h2
    cases repsW0 h4
    cases h1
    cases h3
    cases h
    exact ⟨_, [], by rw [app0]; rfl, rfl, fresh_int⟩
  · obtain ⟨d, es, rfl, h1, h2⟩ := repsW1 hx
    obtain ⟨d2, es2, rfl, h3, h4⟩ := repsW1 h2
    cases repsW0 h4
    cases h1
    cases h3
    cases h
    exact ⟨_, [], by rw [app0]; rfl, rfl, fresh_int⟩
  · obtain ⟨d, es, rfl, h1, h2⟩ := repsW1 hx
    cases repsW0 h2
    obtain ⟨vb, q, e⟩ := Option.map_eq_some_iff.mp h
    cases e
    refine ⟨.bl vb, [], ?_, rfl, fresh_bl⟩
    rw [app0]
    obtain ⟨tt, q1, q2⟩ := Option.bind_eq_some_iff.mp q
    rw [bv_isi]
    unfold isiD
    rw [ty_sim h1 q1]
    show (kitB tt _).map _ = _
    rw [q2]
    rfl
  · obtain ⟨d, es, rfl, h1, h2⟩ := repsW1 hx
    cases repsW0 h2
    obtain ⟨s, q, e⟩ := Option.map_eq_some_iff.mp h
    cases e
    exact ⟨_, [], by rw [app0, bv_repr, repr_sim h1 q]; rfl, rfl, fresh_str⟩
  · obtain ⟨d, es, rfl, h1, h2⟩ := repsW1 hx
    cases repsW0 h2
    cases h1
    split at h
    · rename_i g; cases h; exact ⟨_, [], by rw [app0]; exact if_pos (stk_iff.mp g), rfl, fresh_str⟩
    · cases h
  · obtain ⟨d, es, rfl, h1, h2⟩ := repsW1 hx
    cases repsW0 h2
    obtain ⟨r, fs, rfl, _, a3, a⟩ := h1
    obtain ⟨bs, q, e⟩ := Option.map_eq_some_iff.mp h
    cases e
    refine ⟨.bl (bs.all id), [], ?_, rfl, fresh_bl⟩
    rw [app0]
    show (lstAt S r).bind _ = _
    rw [lstAt_iff a3]
    show (blsOf fs).map _ = _
    rw [a.bls_of q]
    rfl
  · obtain ⟨d, es, rfl, h1, h2⟩ := repsW1 hx
    cases repsW0 h2
    obtain ⟨r, fs, rfl, _, a3, a⟩ := h1
    obtain ⟨bs, q, e⟩ := Option.map_eq_some_iff.mp h
    cases e
    refine ⟨.bl (bs.any id), [], ?_, rfl, fresh_bl⟩
    rw [app0]
    show (lstAt S r).bind _ = _
    rw [lstAt_iff a3]
    show (blsOf fs).map _ = _
    rw [a.bls_of q]
    rfl
  · obtain ⟨d, es, rfl, h1, h2⟩ := repsW1 hx
    cases repsW0 h2
    obtain ⟨r, fs, rfl, _, a3, a⟩ := h1
    obtain ⟨bs, q, e⟩ := Option.map_eq_some_iff.mp h
    cases e
    refine ⟨.int bs.sum, [], ?_, rfl, fresh_int⟩
    rw [app0]
    show (lstAt S r).bind _ = _
    rw [lstAt_iff a3]
    show (intsOf fs).map _ = _
    rw [(a.ints_of q).1]
    rfl
  · obtain ⟨d, es, rfl, h1, h2⟩ := repsW1 hx
    cases repsW0 h2
    obtain ⟨vs, q, e⟩ := Option.map_eq_some_iff.mp h
    cases e
    obtain ⟨fs, e, r⟩ := seq_sim h1 q
    exact ⟨_, _, seqAt_lst e, Rep.new_lst hb r, fresh_new hb r⟩
  · obtain ⟨d, es, rfl, h1, h2⟩ := repsW1 hx
    cases repsW0 h2
    obtain ⟨vs, q, e⟩ := Option.map_eq_some_iff.mp h
    cases e
    obtain ⟨fs, e, r⟩ := seq_sim h1 q
    exact ⟨_, [], by rw [app0, seqAt_tuple e], by rw [app0]; exact ⟨_, rfl, r⟩, fresh_tup r⟩
  · obtain ⟨d, es, rfl, h1, h2⟩ := repsW1 hx
    obtain ⟨d2, es2, rfl, h3, h4⟩ := repsW1 h2
    cases repsW0 h4
    cases h1
    cases h3
    split at h
    · rename_i g
      cases h
      exact ⟨_, _, if_pos (stk_iff.mp g), Rep.new_lst hb (Reps.rg _ _), fresh_new hb (Reps.rg _ _)⟩
    · cases h
  · obtain ⟨d, es, rfl, h1, h2⟩ := repsW1 hx
    cases repsW0 h2
    cases h1
    split at h
    · rename_i g
      cases h
      exact ⟨_, _, if_pos (stk_iff.mp g), Rep.new_lst hb (Reps.rg _ _), fresh_new hb (Reps.rg _ _)⟩
    · cases h
  · obtain ⟨d, es, rfl, h1, h2⟩ := repsW1 hx
    cases repsW0 h2
    obtain ⟨r, fs, rfl, _, a3, a⟩ := h1
    obtain ⟨is, q, e⟩ := Option.bind_eq_some_iff.mp h
    split at e
    · rename_i g
      cases e
      refine ⟨_, _, ?_, Rep.new_lst hb (Reps.ints (ssetI is)), fresh_new hb (Reps.ints (ssetI is))⟩
      show (lstAt S r).bind _ = _
      rw [lstAt_iff a3]
      show (intsOf fs).bind _ = _
      rw [(a.ints_of q).1]
      exact if_pos g
    · cases e
  · cases h
/-- what is walked -/
theorem it_sim {k : Ik} {us xs : List U} {ds : List D} (hx : RepsW π X S us ds) (h : itU k us = some xs) : ∃ ys g, itD S k ds = some (ys, g) ∧ Reps π X S xs ys ∧ ∀ r, g = some r → ds = [.ref r] ∧ r ∉ π ∧ S[r]? = some (.lst ys) := by
  unfold itU at h
  split at h
  · obtain ⟨d, es, rfl, h1, h2⟩ := repsW1 hx
    cases repsW0 h2
    rename_i x
    cases x with
    | tup b => cases h; obtain ⟨fs, rfl, r⟩ := h1; exact ⟨fs, none, rfl, r, fun _ h => by cases h⟩
    | frz b => cases h; obtain ⟨fs, rfl, r⟩ := h1; exact ⟨fs, none, rfl, r, fun _ h => by cases h⟩
    | lst b =>
      cases h
      obtain ⟨r, fs, rfl, a2, a3, a⟩ := h1
      refine ⟨fs, some r, ?_, a, fun q h => ?_⟩
      · show (lstAt S r).map _ = _
        rw [lstAt_iff a3]
        rfl
      · cases h
        exact ⟨rfl, a2, a3⟩
    | _ => cases h
  · obtain ⟨d, es, rfl, h1, h2⟩ := repsW1 hx
    cases repsW0 h2
    cases h1
    split at h
    · rename_i g; cases h; exact ⟨_, none, if_pos (stk_iff.mp g).2.2, Reps.rg _ _, fun _ h => by cases h⟩
    · cases h
  · obtain ⟨d, es, rfl, h1, h2⟩ := repsW1 hx
    obtain ⟨d2, es2, rfl, h3, h4⟩ := repsW1 h2
    cases repsW0 h4
    cases h1
    cases h3
    split at h
    · rename_i g; cases h; exact ⟨_, none, if_pos (stk_iff.mp g), Reps.rg _ _, fun _ h => by cases h⟩
    · cases h
  · obtain ⟨d, es, rfl, h1, h2⟩ := repsW1 hx
    obtain ⟨d2, es2, rfl, h3, h4⟩ := repsW1 h2
    obtain ⟨d3, es3, rfl, h5, h6⟩ := repsW1 h4
    cases repsW0 h6
    cases h1
    cases h3
    cases h5
    obtain ⟨n, q, e⟩ := Option.map_eq_some_iff.mp h
    cases e
    refine ⟨_, none, ?_, Reps.rg _ _, fun _ h => by cases h⟩
    rw [it_rng3, q]
    rfl
  · cases h
end
end Pv

end
section
set_option Elab.async false
set_option linter.all false
set_option maxRecDepth 100000
set_option maxHeartbeats 1000000
/-! Expressions: what the values say is what the store says. -/
namespace Pv
open PySem L2 Mi
/-! ### names as the law has them -/
section
variable (rf rg : Nat → Nat)
mutual
def renE : E → E
  | .var i => .var i
  | .lit d => .lit d
  | .glb k => .glb (rg k)
  | .tup es => .tup (renEs es)
  | .lst es => .lst (renEs es)
  | .dic ks es => .dic ks (renEs es)
  | .op o a b => .op o (renE a) (renE b)
  | .neg a => .neg (renE a)
  | .cmp c a b => .cmp c (renE a) (renE b)
  | .chain c1 c2 a b c => .chain c1 c2 (renE a) (renE b) (renE c)
  | .and es => .and (renEs es)
  | .or es => .or (renEs es)
  | .not a => .not (renE a)
  | .ite c a b => .ite (renE c) (renE a) (renE b)
  | .ix a b => .ix (renE a) (renE b)
  | .slc a lo hi => .slc (renE a) (renO lo) (renO hi)
  | .rev a => .rev (renE a)
  | .call f es => .call (rf f) (renEs es)
  | .bi b es => .bi b (renEs es)
  | .ext a b => .ext (renE a) (renE b)
  | .app a b => .app (renE a) (renE b)
  | .lc vs t k its cs elt => .lc vs t k (renEs its) (renEs cs) (renE elt)
def renEs : List E → List E
  | [] => []
  | e :: es => renE e :: renEs es
def renO : Option E → Option E
  | none => none
  | some e => some (renE e)
end
mutual
def renS : Sm → Sm
  | .asg t e => .asg t (renE rf rg e)
  | .setIx o i e => .setIx (renE rf rg o) (renE rf rg i) (renE rf rg e)
  | .expr e => .expr (renE rf rg e)
  | .ret e => .ret (renE rf rg e)
  | .ite c a b => .ite (renE rf rg c) (renSs a) (renSs b)
  | .for_ t k its body => .for_ t k (renEs rf rg its) (renSs body)
  | .whl c body => .whl (renE rf rg c) (renSs body)
  | .never => .never
def renSs : List Sm → List Sm
  | [] => []
  | s :: ss => renS s :: renSs ss
end
end
/-! ### what an expression lets out -/
def isV : E → Bool
  | .var _ => true
  | _ => false
mutual
def lk : E → List Nat
  | .var i => [i]
  | .lit _ => []
  | .glb _ => []
  | .tup es => lks es
  | .lst es => lks es
  | .dic _ es => lks es
  | .op _ a b => (bif isV a then [] else lk a) ++ (bif isV b then [] else lk b)
  | .neg a => bif isV a then [] else lk a
  | .cmp _ a b => (bif isV a then [] else lk a) ++ (bif isV b then [] else lk b)
  | .chain _ _ a b c => (bif isV a then [] else lk a) ++ ((bif isV b then [] else lk b) ++ (bif isV c then [] else lk c))
  | .and es => lks es
  | .or es => lks es
  | .not a => lk a
  | .ite c a b => lk c ++ (lk a ++ lk b)
  | .ix a b => (bif isV a then [] else lk a) ++ (bif isV b then [] else lk b)
  | .slc a lo hi => (bif isV a then [] else lk a) ++ (lkQ lo ++ lkQ hi)
  | .rev a => bif isV a then [] else lk a
  | .call _ es => lks es
  | .bi _ es => lkOs es
  | .ext _ _ => []
  | .app _ _ => []
  | .lc _ _ _ its cs elt => lkOs its ++ (lks cs ++ lk elt)
def lks : List E → List Nat
  | [] => []
  | e :: es => lk e ++ lks es
def lkOs : List E → List Nat
  | [] => []
  | e :: es => (bif isV e then [] else lk e) ++ lkOs es
def lkQ : Option E → List Nat
  | none => []
  | some e => lk e
end
def lkO (e : E) : List Nat := bif isV e then [] else lk e
/-- its object is new -/
def fresh : E → Bool
  | .lst _ => true
  | .dic _ _ => true
  | .lc _ _ _ _ _ _ => true
  | .op _ _ _ => true
  | .slc _ _ _ => true
  | .bi _ _ => true
  | .lit _ => true
  | _ => false
mutual
def okE (df dg : Nat → Bool) (M : List Nat) : E → Bool
  | .var _ => true
  | .lit _ => true
  | .glb k => dg k
  | .tup es => okEs df dg M es
  | .lst es => okEs df dg M es
  | .dic _ es => okEs df dg M es
  | .op _ a b => okE df dg M a && okE df dg M b
  | .neg a => okE df dg M a
  | .cmp _ a b => okE df dg M a && okE df dg M b
  | .chain _ _ a b c => okE df dg M a && (okE df dg M b && okE df dg M c)
  | .and es => okEs df dg M es
  | .or es => okEs df dg M es
  | .not a => okE df dg M a
  | .ite c a b => okE df dg M c && (okE df dg M a && okE df dg M b)
  | .ix a b => okE df dg M a && okE df dg M b
  | .slc a lo hi => okE df dg M a && (okQ df dg M lo && okQ df dg M hi)
  | .rev a => okE df dg M a
  | .call f es => df f && okEs df dg M es
  | .bi _ es => okEs df dg M es
  | .ext _ _ => false
  | .app _ _ => false
  | .lc vs t _ its cs elt => (vs.all fun v => !M.contains v) && ((t.ix.all fun v => !M.contains v) && (okEs df dg M its && (okEs df dg M cs && okE df dg M elt)))
def okEs (df dg : Nat → Bool) (M : List Nat) : List E → Bool
  | [] => true
  | e :: es => okE df dg M e && okEs df dg M es
def okQ (df dg : Nat → Bool) (M : List Nat) : Option E → Bool
  | none => true
  | some e => okE df dg M e
end
def dif (own L : List Nat) : List Nat := own.filter fun i => !L.contains i
theorem mem_dif {own L : List Nat} {i : Nat} : i ∈ dif own L ↔ i ∈ own ∧ i ∉ L := by
  unfold dif
  rw [List.mem_filter]
  simp
theorem dif_nil (own : List Nat) : dif own [] = own := by
  unfold dif
  exact List.filter_eq_self.mpr fun _ _ => rfl
/-! ### the relation of runs -/
def Hd (Y : Hid) (own : List Nat) (ρ : Mi.Loc) : Hid := fun r => Y r ∨ ∃ i, i ∈ own ∧ ρ[i]? = some (some (.ref r))
structure PotsAt (π : List Nat) (S : Sto) (P : Ps) : Prop where
  len : π.length = P.length
  nod : π.Nodup
  at_ : ∀ (k r : Nat) (a b c : Int), π[k]? = some r → P[k]? = some (a, b, c) → S[r]? = some (.lst [.int a, .int b, .int c])
def SimR {α β : Type} (π : List Nat) (S : Sto) (Y : Hid) (Q : List Nat → Sto → α → β → Prop) (rv : Rv α) (x : Option (R β)) : Prop := match rv with
  | .ok a P' => ∃ π' S' b, x = some (.ok b S') ∧ Stp π S π' S' noZ ∧ PotsAt π' S' P' ∧ Q π' S' a b
  | .ex c v P' => ∃ π' S' d, x = some (.ex c d S') ∧ Stp π S π' S' noZ ∧ PotsAt π' S' P' ∧ Rep π' Y S' v d
structure EnvR (π : List Nat) (Y : Hid) (own : List Nat) (S : Sto) (ρu : LocU) (ρ : Mi.Loc) : Prop where
  len : ρ.length = ρu.length
  at_ : ∀ (i : Nat) (u : U), ρu[i]? = some (some u) → ∃ d, ρ[i]? = some (some d) ∧ RepW π (Hd Y own ρ) S u d ∧ (i ∉ own → Rep π (Hd Y own ρ) S u d)
  one : ∀ (i j r : Nat), i ∈ own → j ∈ own → ρ[i]? = some (some (.ref r)) → ρ[j]? = some (some (.ref r)) → i = j
  ow : ∀ (i r : Nat), i ∈ own → ρ[i]? = some (some (.ref r)) → r < S.length ∧ r ∉ π ∧ ¬ Y r
  bd : Bd π Y S
section
variable {π π' π2 : List Nat} {X X' Y Z Z' : Hid} {S S' S2 : Sto} {P P' : Ps} {own own' L L' M : List Nat} {ρu : LocU} {ρ : Mi.Loc}
theorem PotsAt.lt (h : PotsAt π S P) : ∀ r, r ∈ π → r < S.length := fun r hr => by
  obtain ⟨k, hk, e⟩ := List.getElem_of_mem hr
  have h1 : π[k]? = some r := by rw [List.getElem?_eq_getElem hk, e]
  have hk2 : k < P.length := by rw [← h.len]; exact hk
  have h2 : P[k]? = some P[k] := List.getElem?_eq_getElem hk2
  exact lt_of_at (h.at_ k r _ _ _ h1 h2)
theorem PotsAt.grow (h : PotsAt π S P) (T : Sto) : PotsAt π (S ++ T) P := ⟨h.len, h.nod, fun k r a b c e f => (List.getElem?_append_left (h.lt r (List.mem_of_getElem? e))).trans (h.at_ k r a b c e f)⟩
theorem SimR.map {α β : Type} {Q Q' : List Nat → Sto → α → β → Prop} {rv : Rv α} {x : Option (R β)} (h : SimR π S Y Q rv x) (k : ∀ π' S' P' a b, Stp π S π' S' noZ → PotsAt π' S' P' → Q π' S' a b → Q' π' S' a b) : SimR π S Y Q' rv x := by
  cases rv with
  | ok a P' => obtain ⟨π', S', b, e, s, p, q⟩ := h; exact ⟨π', S', b, e, s, p, k π' S' P' a b s p q⟩
  | ex c v P' => exact h
theorem SimR.bind {α β α2 β2 : Type} {Q : List Nat → Sto → α → β → Prop} {Q2 : List Nat → Sto → α2 → β2 → Prop} {xu : Option (Rv α)} {ku : α → Ps → Option (Rv α2)} {rv2 : Rv α2} {x : Option (R β)} {k : β → Sto → Option (R β2)}
    (hu : bndV xu ku = some rv2) (h : ∀ rv, xu = some rv → SimR π S Y Q rv x) (hk : ∀ a P' π' S' b, Stp π S π' S' noZ → PotsAt π' S' P' → Q π' S' a b → ku a P' = some rv2 → SimR π' S' Y Q2 rv2 (k b S')) : SimR π S Y Q2 rv2 (bnd x k) := by
  cases xu with
  | none => cases hu
  | some rv =>
    have h := h rv rfl
    cases rv with
    | ok a P' =>
      obtain ⟨π', S', b, e, s, p, q⟩ := h
      have z := hk a P' π' S' b s p q hu
      rw [e, bnd_ok]
      cases rv2 with
      | ok a2 P2 => obtain ⟨π2, S2, b2, e2, s2, p2, q2⟩ := z; exact ⟨π2, S2, b2, e2, s.tr0 s2, p2, q2⟩
      | ex c2 v2 P2 => obtain ⟨π2, S2, b2, e2, s2, p2, q2⟩ := z; exact ⟨π2, S2, b2, e2, s.tr0 s2, p2, q2⟩
    | ex c v P' =>
      obtain ⟨π', S', d, e, s, p, q⟩ := h
      cases hu
      rw [e]
      exact ⟨π', S', d, rfl, s, p, q⟩
theorem SimR.ret {α β : Type} {Q : List Nat → Sto → α → β → Prop} {a : α} {b : β} (hp : PotsAt π S P) (h : Q π S a b) : SimR π S Y Q (.ok a P) (some (.ok b S)) := ⟨π, S, b, rfl, Stp.refl, hp, h⟩
theorem SimR.retT {α β : Type} {Q : List Nat → Sto → α → β → Prop} {a : α} {b : β} (T : Sto) (hp : PotsAt π S P) (h : Q π (S ++ T) a b) : SimR π S Y Q (.ok a P) (some (.ok b (S ++ T))) := ⟨π, S ++ T, b, rfl, Stp.more T, hp.grow T, h⟩
theorem Hd.sub (h : ∀ i ∈ own', i ∈ own) : ∀ r, Hd Y own' ρ r → Hd Y own ρ r := fun r z => z.elim .inl fun ⟨i, hi, e⟩ => .inr ⟨i, h i hi, e⟩
theorem dif_sub (h : ∀ i ∈ L, i ∈ L') : ∀ i ∈ dif own L', i ∈ dif own L := fun i hi => by
  rw [mem_dif] at hi ⊢
  exact ⟨hi.1, fun z => hi.2 (h i z)⟩
theorem dif_own : ∀ i ∈ dif own L, i ∈ own := fun i hi => (mem_dif.mp hi).1
theorem EnvR.hbd (h : EnvR π Y own S ρu ρ) : Bd π (Hd Y own ρ) S := ⟨fun r z => z.elim (h.bd.x r) fun ⟨i, hi, e⟩ => (h.ow i r hi e).1, h.bd.p⟩
theorem Bd.sub (h : Bd π X S) (hx : ∀ r, X' r → X r) : Bd π X' S := ⟨fun r z => h.x r (hx r z), h.p⟩
theorem EnvR.mono (h : EnvR π Y own S ρu ρ) (a : Stp π S π' S' noZ) (hp : PotsAt π' S' P') : EnvR π' Y own S' ρu ρ :=
  ⟨h.len, fun i u e => let ⟨d, e1, w, q⟩ := h.at_ i u e; ⟨d, e1, w.mono a, fun n => Rep.mono a (fun _ z => z.elim) u d (q n)⟩, h.one,
   fun i r hi e => let ⟨a1, a2, a3⟩ := h.ow i r hi e; ⟨Nat.lt_of_lt_of_le a1 a.len, fun z => (a.new r z).elim a2 fun z => by omega, a3⟩, h.bd.mono a hp.lt⟩
/-- what is let out is no longer hidden -/
theorem EnvR.leak (h : EnvR π Y own S ρu ρ) (L : List Nat) : EnvR π Y (dif own L) S ρu ρ := by
  have sub := Hd.sub (Y := Y) (ρ := ρ) (dif_own (own := own) (L := L))
  refine ⟨h.len, fun i u e => ?_, fun i j r hi hj => h.one i j r (dif_own i hi) (dif_own j hj), fun i r hi => h.ow i r (dif_own i hi), h.bd⟩
  obtain ⟨d, e1, w, q⟩ := h.at_ i u e
  refine ⟨d, e1, w.sub sub, fun n => ?_⟩
  by_cases hi : i ∈ own
  · have no : ∀ r, d = .ref r → ¬ Hd Y (dif own L) ρ r := fun r e2 z => by
      subst e2
      rcases z with z | ⟨j, hj, e3⟩
      · exact (h.ow i r hi e1).2.2 z
      · have := h.one i j r hi (dif_own j hj) e1 e3
        subst this
        exact n hj
    cases u with
    | lst us => obtain ⟨r, ds, e2, h2, h3, hh⟩ := w; exact ⟨r, ds, e2, no r e2, h2, h3, Reps.sub sub _ _ hh⟩
    | dct ks us => obtain ⟨r, ds, e2, h2, h3, h4, hh⟩ := w; exact ⟨r, ds, e2, no r e2, h2, h3, h4, Reps.sub sub _ _ hh⟩
    | _ => exact Rep.sub sub _ _ w
  · exact Rep.sub sub _ _ (q hi)
theorem hd_set {i : Nat} {o : Option D} (h : i ∉ own) : Hd Y own (ρ.set i o) = Hd Y own ρ := by
  funext r
  unfold Hd
  refine propext ⟨fun z => z.imp id fun ⟨j, hj, e⟩ => ⟨j, hj, ?_⟩, fun z => z.imp id fun ⟨j, hj, e⟩ => ⟨j, hj, ?_⟩⟩
  · rwa [List.getElem?_set_ne (fun e : i = j => h (e ▸ hj))] at e
  · rwa [List.getElem?_set_ne (fun e : i = j => h (e ▸ hj))]
theorem EnvR.put (h : EnvR π Y own S ρu ρ) {i : Nat} (hi : i ∉ own) {u : U} {d : D} (r : Rep π (Hd Y own ρ) S u d) : EnvR π Y own S (ρu.set i (some u)) (ρ.set i (some d)) := by
  have ge : ∀ j ∈ own, (ρ.set i (some d))[j]? = ρ[j]? := fun j hj => List.getElem?_set_ne (fun e : i = j => hi (e ▸ hj))
  refine ⟨by simp [h.len], fun j v e => ?_, fun a b q ha hb ea eb => ?_, fun a q ha ea => ?_, h.bd⟩
  · rw [hd_set hi]
    by_cases hj : i = j
    · subst hj
      have hl : i < ρu.length := by
        have := (List.getElem?_eq_some_iff.mp e).1
        simpa using this
      rw [List.getElem?_set_self hl] at e
      cases e
      exact ⟨d, List.getElem?_set_self (by rw [h.len]; exact hl), r.w, fun _ => r⟩
    · rw [List.getElem?_set_ne hj] at e ⊢
      exact h.at_ j v e
  · rw [ge a ha] at ea
    rw [ge b hb] at eb
    exact h.one a b q ha hb ea eb
  · rw [ge a ha] at ea
    exact h.ow a q ha ea
theorem EnvR.del (h : EnvR π Y own S ρu ρ) {i : Nat} (hi : i ∉ own) : EnvR π Y own S (ρu.set i none) (ρ.set i none) := by
  have ge : ∀ j ∈ own, (ρ.set i none)[j]? = ρ[j]? := fun j hj => List.getElem?_set_ne (fun e : i = j => hi (e ▸ hj))
  refine ⟨by simp [h.len], fun j v e => ?_, fun a b q ha hb ea eb => ?_, fun a q ha ea => ?_, h.bd⟩
  · rw [hd_set hi]
    by_cases hj : i = j
    · subst hj
      have hl : i < ρu.length := by
        have := (List.getElem?_eq_some_iff.mp e).1
        simpa using this
      rw [List.getElem?_set_self hl] at e
      cases e
    · rw [List.getElem?_set_ne hj] at e ⊢
      exact h.at_ j v e
  · rw [ge a ha] at ea
    rw [ge b hb] at eb
    exact h.one a b q ha hb ea eb
  · rw [ge a ha] at ea
    exact h.ow a q ha ea
theorem EnvR.wipe (h : EnvR π Y own S ρu ρ) : ∀ vs : List Nat, (∀ v ∈ vs, v ∉ own) → EnvR π Y own S (wipeU ρu vs) (wipeD ρ vs) ∧ Hd Y own (wipeD ρ vs) = Hd Y own ρ
  | [], _ => ⟨h, rfl⟩
  | v :: vs, hv => by
    obtain ⟨a, b⟩ := EnvR.wipe h vs fun w hw => hv w (List.mem_cons_of_mem _ hw)
    exact ⟨a.del (hv v List.mem_cons_self), (hd_set (hv v List.mem_cons_self)).trans b⟩
theorem EnvR.setAll : ∀ (is : List Nat) (us : List U) (ds : List D) {ρu : LocU} {ρ : Mi.Loc}, EnvR π Y own S ρu ρ → (∀ v ∈ is, v ∉ own) → Reps π (Hd Y own ρ) S us ds → EnvR π Y own S (setAllU ρu is us) (Mi.setAll ρ is ds) ∧ Hd Y own (Mi.setAll ρ is ds) = Hd Y own ρ
  | [], us, ds, ρu, ρ, h, _, _ => by
    have a : setAllU ρu [] us = ρu := by cases us <;> rfl
    have b : Mi.setAll ρ [] ds = ρ := by cases ds <;> rfl
    rw [a, b]
    exact ⟨h, rfl⟩
  | i :: is, [], _, ρu, ρ, h, _, r => by
    have r : _ = [] := r
    rw [r]
    exact ⟨h, rfl⟩
  | i :: is, u :: us, _, ρu, ρ, h, hv, r => by
    obtain ⟨d, es, e, r1, r2⟩ := r
    rw [e]
    have hi := hv i List.mem_cons_self
    have hd := hd_set (Y := Y) (ρ := ρ) (o := some d) hi
    obtain ⟨a, b⟩ := EnvR.setAll is us es (h.put hi r1) (fun w hw => hv w (List.mem_cons_of_mem _ hw)) (by rw [hd]; exact r2)
    exact ⟨a, b.trans hd⟩
/-- a target that is not owned -/
theorem EnvR.setT (h : EnvR π Y own S ρu ρ) {t : Tg} (ht : ∀ v ∈ t.ix, v ∉ own) {u : U} {d : D} (r : Rep π (Hd Y own ρ) S u d) {ρu' : LocU} (e : setU ρu t u = some ρu') : ∃ ρ', Mi.setT ρ t d = some ρ' ∧ EnvR π Y own S ρu' ρ' ∧ Hd Y own ρ' = Hd Y own ρ := by
  cases t with
  | one i =>
    cases e
    exact ⟨_, rfl, h.put (ht i List.mem_cons_self) r, hd_set (ht i List.mem_cons_self)⟩
  | tup is =>
    cases u with
    | tup us =>
      obtain ⟨ds, rfl, r⟩ := r
      have e : (if us.length = is.length then some (setAllU ρu is us) else none) = some ρu' := e
      split at e
      · rename_i g
        cases e
        obtain ⟨a, b⟩ := EnvR.setAll is us ds h ht r
        exact ⟨_, if_pos (by rw [r.length]; exact g), a, b⟩
      · cases e
    | _ => cases e
end
end Pv

end
section
set_option Elab.async false
set_option linter.all false
set_option maxRecDepth 100000
set_option maxHeartbeats 1000000
/-! Expressions: the proof. -/
namespace Pv
open PySem L2 Mi
/-- calls do alike -/
def CSim (df : Nat → Bool) (rf : Nat → Nat) (calU : CalU) (cal : Cal) : Prop := ∀ (f : Nat) (us : List U) (P : Ps) (rv : Rv U), df f = true → calU f us P = some rv → ∀ (π : List Nat) (X : Hid) (S : Sto) (ds : List D), Bd π X S → PotsAt π S P → Reps π X S us ds →
  SimR π S X (fun π' S' u d => Rep π' X S' u d) rv (cal (rf f) ds S)
def GOk (dg : Nat → Bool) (rg : Nat → Nat) (GU : Nat → Option U) (G : List D) : Prop := ∀ (k : Nat) (u : U), dg k = true → GU k = some u → ∃ d, G[rg k]? = some d ∧ ∀ π X S, Rep π X S u d
section
variable {π π' π2 : List Nat} {X X' Y Z Z' : Hid} {S S' S2 : Sto} {P P' : Ps} {own own' L L' M : List Nat} {ρu : LocU} {ρ : Mi.Loc}
theorem tst_sim {Q : List Nat → Sto → U → D → Prop} {xu : Option (Rv U)} {x : Option (R D)} {rv : Rv Bool} (hu : tstU xu = some rv) (h : ∀ rv', xu = some rv' → SimR π S Y Q rv' x) (hq : ∀ π' S' u d, Q π' S' u d → ∃ X, RepW π' X S' u d) : SimR π S Y (fun _ _ a b => a = b) rv (tst x) := by
  refine SimR.bind hu h fun u P1 π1 S1 d st p q e => ?_
  obtain ⟨X, w⟩ := hq π1 S1 u d q
  cases u with
  | bl b =>
    cases e
    cases w
    exact SimR.ret p rfl
  | _ => cases e
theorem comp_sim {condU : U → Ps → Option (Rv Bool)} {eltU : U → Ps → Option (Rv U)} {cond : D → Sto → Option (R Bool)} {elt : D → Sto → Option (R D)} {ok : Sto → Bool}
    (hc : ∀ u d π1 S1 P1 rv, Stp π S π1 S1 noZ → PotsAt π1 S1 P1 → Rep π1 X S1 u d → condU u P1 = some rv → SimR π1 S1 Y (fun _ _ a b => a = b) rv (cond d S1))
    (he : ∀ u d π1 S1 P1 rv, Stp π S π1 S1 noZ → PotsAt π1 S1 P1 → Rep π1 X S1 u d → eltU u P1 = some rv → SimR π1 S1 Y (fun π' S' a b => Rep π' X' S' a b) rv (elt d S1))
    (hok : ∀ π1 S1, Stp π S π1 S1 noZ → ok S1 = true) : ∀ (xs : List U) (ds : List D) (π1 : List Nat) (S1 : Sto) (P1 : Ps) (rv : Rv (List U)), Stp π S π1 S1 noZ → PotsAt π1 S1 P1 → Reps π1 X S1 xs ds → compU condU eltU xs P1 = some rv →
      SimR π1 S1 Y (fun π' S' us es => Reps π' X' S' us es) rv (compGo cond elt ok ds S1)
  | [], _, π1, S1, P1, rv, st, p, r, h => by
    have r : _ = [] := r
    rw [r]
    cases h
    exact SimR.ret p Reps.nil
  | x :: xs, _, π1, S1, P1, rv, st, p, r, h => by
    obtain ⟨d, es, e, r1, r2⟩ := r
    subst e
    rw [compU] at h
    rw [compGo]
    refine SimR.bind h (fun rv' e => hc x d π1 S1 P1 rv' st p r1 e) fun b P2 π2 S2 b' st2 p2 q e => ?_
    subst q
    have s2 := st.tr0 st2
    cases b with
    | true =>
      simp only [if_true] at e ⊢
      refine SimR.bind e (fun rv' e => he x d π2 S2 P2 rv' s2 p2 (Rep.mono st2 (fun _ z => z.elim) _ _ r1) e) fun u P3 π3 S3 d3 st3 p3 q3 e => ?_
      have s3 := s2.tr0 st3
      rw [if_pos (hok π3 S3 s3)]
      refine SimR.bind e (fun rv' e => comp_sim hc he hok xs es π3 S3 P3 rv' s3 p3 (Reps.mono (st2.tr0 st3) (fun _ z => z.elim) _ _ r2) e) fun us P4 π4 S4 ds4 st4 p4 q4 e => ?_
      cases e
      exact SimR.ret p4 (Reps.cons (Rep.mono st4 (fun _ z => z.elim) _ _ q3) q4)
    | false =>
      simp only [Bool.false_eq_true, if_false] at e ⊢
      rw [if_pos (hok π2 S2 s2)]
      exact comp_sim hc he hok xs es π2 S2 P2 rv s2 p2 (Reps.mono st2 (fun _ z => z.elim) _ _ r2) e
theorem still_sim {g : Option Nat} {ys : List D} (h : ∀ r, g = some r → r ∉ π ∧ S[r]? = some (.lst ys)) (st : Stp π S π' S' noZ) : still g ys S' = true := by
  cases g with
  | none => rfl
  | some r =>
    obtain ⟨a, b⟩ := h r rfl
    show (match lstAt S' r with
      | some ys_1 => D.beqs ys ys_1
      | none => false) = true
    rw [lstAt_iff (st.keep b a id)]
    exact D.beqs_refl ys
theorem noX_sim {α β : Type} {Q : List Nat → Sto → α → β → Prop} {xu : Option (Rv α)} {x : Option (R β)} {rv : Rv α} (hu : noXU xu = some rv) (h : ∀ rv', xu = some rv' → SimR π S Y Q rv' x) : SimR π S Y Q rv (noX x) := by
  cases xu with
  | none => cases hu
  | some r =>
    cases r with
    | ok a P' =>
      cases hu
      obtain ⟨π', S', b, e, s, p, q⟩ := h _ rfl
      rw [e]
      exact ⟨π', S', b, rfl, s, p, q⟩
    | ex c v P' => cases hu
end
section
variable {df dg : Nat → Bool} {rf rg : Nat → Nat} {GU : Nat → Option U} {G : List D} {calU : CalU} {cal : Cal} {M : List Nat} (hG : GOk dg rg GU G) (hC : CSim df rf calU cal) {Y : Hid} {own : List Nat} {ρu : LocU} {ρ : Mi.Loc} {N : Nat}
/-- new behind N, and of what was there before -/
def FreshQ (N : Nat) (X : Hid) (π : List Nat) (S : Sto) (u : U) (d : D) : Prop := ∃ n, N ≤ n ∧ FreshN n d ∧ RepW π (fun r => X r ∨ n ≤ r) S u d
theorem FreshP.q {π : List Nat} {X X' : Hid} {S T : Sto} {z : U} {d : D} (h : FreshP π X S T z d) (hN : N ≤ S.length) (hx : ∀ r, X' r → X r) : FreshQ N X' π (S ++ T) z d := ⟨S.length, hN, h.1, h.2.sub fun r z => z.imp (hx r) id⟩
/-- the wish of a value -/
abbrev QV (Y : Hid) (own : List Nat) (ρ : Mi.Loc) (N : Nat) (e : E) : List Nat → Sto → U → D → Prop := fun π' S' u d => Rep π' (Hd Y (dif own (lk e)) ρ) S' u d ∧ (isV e = true → RepW π' (Hd Y own ρ) S' u d ∧ ∃ i, e = .var i ∧ ρ[i]? = some (some d)) ∧ (fresh e = true → FreshQ N (Hd Y (dif own (lk e)) ρ) π' S' u d)
theorem opd {π : List Nat} {S : Sto} {e : E} {rv : Rv U} {x : Option (R D)} (h : SimR π S Y (QV Y own ρ N e) rv x) : SimR π S Y (fun π' S' u d => RepW π' (Hd Y (dif own (lkO e)) ρ) S' u d) rv x :=
  h.map fun π' S' P' u d _ _ ⟨a, b, _⟩ => by
    unfold lkO
    cases q : isV e with
    | true => rw [cond_true, dif_nil]; exact (b q).1
    | false => rw [cond_false]; exact a.w
theorem sub_l {L L' : List Nat} : ∀ r, Hd Y (dif own (L ++ L')) ρ r → Hd Y (dif own L) ρ r := Hd.sub (dif_sub fun i hi => List.mem_append_left _ hi)
theorem sub_r {L L' : List Nat} : ∀ r, Hd Y (dif own (L ++ L')) ρ r → Hd Y (dif own L') ρ r := Hd.sub (dif_sub fun i hi => List.mem_append_right _ hi)
include hG hC in
mutual
theorem sim_e : ∀ (e : E) {own : List Nat} {ρu : LocU} {ρ : Mi.Loc} {N : Nat} {π : List Nat} {S : Sto} {P : Ps} {rv : Rv U}, (∀ i ∈ own, i ∈ M) → EnvR π Y own S ρu ρ → PotsAt π S P → N ≤ S.length → okE df dg M e = true → evU GU calU e ρu P = some rv → SimR π S Y (QV Y own ρ N e) rv (evE G cal (renE rf rg e) ρ S)
  | .var i, own, ρu, ρ, N, π, S, P, rv, hM, h, hp, hN, _, hu => by
    rw [evU] at hu
    split at hu
    · rename_i u q
      cases hu
      obtain ⟨d, e1, w, _⟩ := h.at_ i u q
      obtain ⟨d2, e2, _, r⟩ := (h.leak [i]).at_ i u q
      rw [e1] at e2
      cases e2
      rw [renE, evE, e1]
      exact SimR.ret hp ⟨by rw [lk]; exact r (fun z => (mem_dif.mp z).2 List.mem_cons_self), fun _ => ⟨w, i, rfl, e1⟩, fun z => by cases z⟩
    · cases hu
  | .lit d, own, ρu, ρ, N, π, S, P, rv, hM, h, hp, hN, _, hu => by
    rw [renE, evE]
    rw [evU] at hu
    obtain ⟨u, e, e2⟩ := Option.map_eq_some_iff.mp hu
    cases e2
    cases d with
    | non => cases e; exact SimR.ret hp ⟨rfl, fun z => (by cases z), fun _ => ⟨N, Nat.le_refl _, fun r e => (by cases e), rfl⟩⟩
    | bl b => cases e; exact SimR.ret hp ⟨rfl, fun z => (by cases z), fun _ => ⟨N, Nat.le_refl _, fun r e => (by cases e), rfl⟩⟩
    | int b => cases e; exact SimR.ret hp ⟨rfl, fun z => (by cases z), fun _ => ⟨N, Nat.le_refl _, fun r e => (by cases e), rfl⟩⟩
    | str b => cases e; exact SimR.ret hp ⟨rfl, fun z => (by cases z), fun _ => ⟨N, Nat.le_refl _, fun r e => (by cases e), rfl⟩⟩
    | _ => cases e
  | .glb k, own, ρu, ρ, N, π, S, P, rv, hM, h, hp, hN, hk, hu => by
    rw [evU] at hu
    split at hu
    · rename_i u q
      cases hu
      obtain ⟨d, e1, r⟩ := hG k u hk q
      rw [renE, evE, e1]
      exact SimR.ret hp ⟨r _ _ _, fun z => (by cases z), fun z => by cases z⟩
    · cases hu
  | .tup es, own, ρu, ρ, N, π, S, P, rv, hM, h, hp, hN, hk, hu => by
    rw [evU] at hu
    rw [okE] at hk
    rw [renE, evE]
    refine SimR.bind hu (fun rv' e => sim_es es hM h hp hk e) fun us P1 π1 S1 ds st p q e => ?_
    split at e
    · rename_i g
      cases e
      rw [if_pos (by rw [q.length]; exact g)]
      exact SimR.ret p ⟨⟨ds, rfl, q⟩, fun z => (by cases z), fun z => by cases z⟩
    · cases e
  | .lst es, own, ρu, ρ, N, π, S, P, rv, hM, h, hp, hN, hk, hu => by
    rw [evU] at hu
    rw [okE] at hk
    rw [renE, evE]
    refine SimR.bind hu (fun rv' e => sim_es es hM h hp hk e) fun us P1 π1 S1 ds st p q e => ?_
    split at e
    · rename_i g
      cases e
      rw [if_pos (by rw [q.length]; exact g)]
      exact SimR.retT _ p ⟨Rep.new_lst (((h.mono st p).hbd).sub (Hd.sub dif_own)) q, fun z => (by cases z), fun _ => (fresh_new (((h.mono st p).hbd).sub (Hd.sub dif_own)) q).q (Nat.le_trans hN st.len) fun _ z => z⟩
    · cases e
  | .dic ks es, own, ρu, ρ, N, π, S, P, rv, hM, h, hp, hN, hk, hu => by
    rw [evU] at hu
    rw [okE] at hk
    rw [renE, evE]
    refine SimR.bind hu (fun rv' e => sim_es es hM h hp hk e) fun us P1 π1 S1 ds st p q e => ?_
    split at e
    · rename_i g
      cases e
      have hb := ((h.mono st p).hbd).sub (Hd.sub (dif_own (L := lks es)))
      have hz : ds.length = ks.length := by rw [q.length]; exact g.symm
      have e1 : ((ks.map Sum.inr).zip ds).map (fun q : Key × D => keyU q.1) = ks.map U.str := by
        have : (fun q : Key × D => keyU q.1) = keyU ∘ Prod.fst := rfl
        rw [this, ← List.map_map, List.map_fst_zip (by rw [List.length_map]; omega), List.map_map]
        rfl
      have e2 : ((ks.map Sum.inr).zip ds).map (fun q : Key × D => q.2) = ds := by
        rw [List.map_snd_zip (by rw [List.length_map]; omega)]
      refine SimR.retT _ p ⟨⟨S1.length, (ks.map Sum.inr).zip ds, rfl, hb.new.1, hb.new.2, by simp, e1.symm, by rw [e2]; exact q.add _⟩, fun z => (by cases z), fun _ => ⟨S1.length, Nat.le_trans hN st.len, fun r e => (by cases e; exact Nat.le_refl _), S1.length, (ks.map Sum.inr).zip ds, rfl, hb.new.2, by simp, e1.symm, by rw [e2]; exact (q.bound).add _⟩⟩
    · cases e
  | .op o a b, own, ρu, ρ, N, π, S, P, rv, hM, h, hp, hN, hk, hu => by
    rw [evU] at hu
    rw [okE, Bool.and_eq_true] at hk
    rw [renE, evE]
    refine SimR.bind hu (fun rv' e => opd (sim_e a hM h hp hN hk.1 e)) fun x P1 π1 S1 dx st p qx e => ?_
    have h1 := h.mono st p
    refine SimR.bind e (fun rv' e => opd (sim_e b hM h1 p (Nat.le_trans hN st.len) hk.2 e)) fun y P2 π2 S2 dy st2 p2 qy e => ?_
    unfold liftU at e
    obtain ⟨z, e3, e4⟩ := Option.map_eq_some_iff.mp e
    cases e4
    obtain ⟨d, T, e5, r, f⟩ := op_sim (((h1.mono st2 p2).hbd).sub (Hd.sub (dif_own (L := lk (.op o a b))))) ((qx.mono st2).sub (by rw [lk]; exact sub_l)) (qy.sub (by rw [lk]; exact sub_r)) e3
    unfold lift2
    rw [e5]
    exact SimR.retT T p2 ⟨r, fun z => (by cases z), fun _ => f.q (Nat.le_trans hN (st.tr0 st2).len) fun _ z => z⟩
  | .neg a, own, ρu, ρ, N, π, S, P, rv, hM, h, hp, hN, hk, hu => by
    rw [evU] at hu
    rw [okE] at hk
    rw [renE, evE]
    refine SimR.bind hu (fun rv' e => opd (sim_e a hM h hp hN hk e)) fun x P1 π1 S1 dx st p qx e => ?_
    cases x with
    | int i =>
      cases e
      cases qx
      exact SimR.ret p ⟨rfl, fun z => (by cases z), fun z => by cases z⟩
    | _ => cases e
  | .cmp c a b, own, ρu, ρ, N, π, S, P, rv, hM, h, hp, hN, hk, hu => by
    rw [evU] at hu
    rw [okE, Bool.and_eq_true] at hk
    rw [renE, evE]
    refine SimR.bind hu (fun rv' e => opd (sim_e a hM h hp hN hk.1 e)) fun x P1 π1 S1 dx st p qx e => ?_
    have h1 := h.mono st p
    refine SimR.bind e (fun rv' e => opd (sim_e b hM h1 p (Nat.le_trans hN st.len) hk.2 e)) fun y P2 π2 S2 dy st2 p2 qy e => ?_
    obtain ⟨z, e3, e4⟩ := Option.map_eq_some_iff.mp e
    cases e4
    rw [cmp_sim ((qx.mono st2).sub (X' := Hd Y (dif own (lkO a ++ lkO b)) ρ) sub_l) (qy.sub sub_r) e3]
    exact SimR.ret p2 ⟨rfl, fun z => (by cases z), fun z => by cases z⟩
  | .chain c1 c2 a b c, own, ρu, ρ, N, π, S, P, rv, hM, h, hp, hN, hk, hu => by
    rw [evU] at hu
    rw [okE, Bool.and_eq_true, Bool.and_eq_true] at hk
    rw [renE, evE]
    refine SimR.bind hu (fun rv' e => opd (sim_e a hM h hp hN hk.1 e)) fun x P1 π1 S1 dx st p qx e => ?_
    have h1 := h.mono st p
    have hN1 := Nat.le_trans hN st.len
    refine SimR.bind e (fun rv' e => opd (sim_e b hM h1 p hN1 hk.2.1 e)) fun y P2 π2 S2 dy st2 p2 qy e => ?_
    have h2 := h1.mono st2 p2
    have hN2 := Nat.le_trans hN1 st2.len
    split at e
    · rename_i g
      rw [cmp_sim ((qx.mono st2).sub (X' := Hd Y (dif own (lkO a ++ lkO b)) ρ) sub_l) (qy.sub sub_r) g]
      refine SimR.bind e (fun rv' e => opd (sim_e c hM h2 p2 hN2 hk.2.2 e)) fun z P3 π3 S3 dz st3 p3 qz e => ?_
      obtain ⟨w, e3, e4⟩ := Option.map_eq_some_iff.mp e
      cases e4
      rw [cmp_sim ((qy.mono st3).sub (X' := Hd Y (dif own (lkO b ++ lkO c)) ρ) sub_l) (qz.sub sub_r) e3]
      exact SimR.ret p3 ⟨rfl, fun z => (by cases z), fun z => by cases z⟩
    · rename_i g
      cases e
      rw [cmp_sim ((qx.mono st2).sub (X' := Hd Y (dif own (lkO a ++ lkO b)) ρ) sub_l) (qy.sub sub_r) g]
      exact SimR.ret p2 ⟨rfl, fun z => (by cases z), fun z => by cases z⟩
    · cases e
  | .and es, own, ρu, ρ, N, π, S, P, rv, hM, h, hp, hN, hk, hu => by
    rw [evU] at hu
    rw [okE] at hk
    rw [renE, evE]
    exact (sim_and es hM h hp hk hu).map fun π' S' P' u d _ _ ⟨b, e1, e2⟩ => by subst e1 e2; exact ⟨rfl, fun z => (by cases z), fun z => by cases z⟩
  | .or es, own, ρu, ρ, N, π, S, P, rv, hM, h, hp, hN, hk, hu => by
    rw [evU] at hu
    rw [okE] at hk
    rw [renE, evE]
    exact (sim_or es hM h hp hk hu).map fun π' S' P' u d _ _ ⟨b, e1, e2⟩ => by subst e1 e2; exact ⟨rfl, fun z => (by cases z), fun z => by cases z⟩
  | .not a, own, ρu, ρ, N, π, S, P, rv, hM, h, hp, hN, hk, hu => by
    rw [evU] at hu
    rw [okE] at hk
    rw [renE, evE]
    refine SimR.bind hu (fun rv' e => tst_sim e (fun rv' e => opd (sim_e a hM h hp hN hk e)) fun _ _ _ _ q => ⟨_, q⟩) fun b P1 π1 S1 b' st p q e => ?_
    subst q
    cases e
    exact SimR.ret p ⟨rfl, fun z => (by cases z), fun z => by cases z⟩
  | .ite c a b, own, ρu, ρ, N, π, S, P, rv, hM, h, hp, hN, hk, hu => by
    rw [evU] at hu
    rw [okE, Bool.and_eq_true, Bool.and_eq_true] at hk
    rw [renE, evE]
    refine SimR.bind hu (fun rv' e => tst_sim e (fun rv' e => opd (sim_e c hM h hp hN hk.1 e)) fun _ _ _ _ q => ⟨_, q⟩) fun t P1 π1 S1 b' st p q e => ?_
    subst q
    have h1 := h.mono st p
    have hN1 := Nat.le_trans hN st.len
    cases t with
    | true =>
      simp only [if_true] at e ⊢
      exact (sim_e a hM h1 p hN1 hk.2.1 e).map fun π' S' P' u d _ _ ⟨r, _, _⟩ => ⟨Rep.sub (by rw [lk]; exact fun r z => sub_l r (sub_r r z)) _ _ r, fun z => (by cases z), fun z => (by cases z)⟩
    | false =>
      simp only [Bool.false_eq_true, if_false] at e ⊢
      exact (sim_e b hM h1 p hN1 hk.2.2 e).map fun π' S' P' u d _ _ ⟨r, _, _⟩ => ⟨Rep.sub (by rw [lk]; exact fun r z => sub_r r (sub_r r z)) _ _ r, fun z => (by cases z), fun z => (by cases z)⟩
  | .ix a b, own, ρu, ρ, N, π, S, P, rv, hM, h, hp, hN, hk, hu => by
    rw [evU] at hu
    rw [okE, Bool.and_eq_true] at hk
    rw [renE, evE]
    refine SimR.bind hu (fun rv' e => opd (sim_e a hM h hp hN hk.1 e)) fun x P1 π1 S1 dx st p qx e => ?_
    have h1 := h.mono st p
    refine SimR.bind e (fun rv' e => opd (sim_e b hM h1 p (Nat.le_trans hN st.len) hk.2 e)) fun y P2 π2 S2 dy st2 p2 qy e => ?_
    unfold liftU at e
    obtain ⟨z, e3, e4⟩ := Option.map_eq_some_iff.mp e
    cases e4
    obtain ⟨d, e5, r⟩ := ix_sim ((qx.mono st2).sub (X' := Hd Y (dif own (lk (.ix a b))) ρ) (by rw [lk]; exact sub_l)) (qy.sub (by rw [lk]; exact sub_r)) e3
    rw [e5]
    exact SimR.ret p2 ⟨r, fun z => (by cases z), fun z => by cases z⟩
  | .slc a lo hi, own, ρu, ρ, N, π, S, P, rv, hM, h, hp, hN, hk, hu => by
    rw [evU] at hu
    rw [okE, Bool.and_eq_true, Bool.and_eq_true] at hk
    rw [renE, evE]
    refine SimR.bind hu (fun rv' e => opd (sim_e a hM h hp hN hk.1 e)) fun x P1 π1 S1 dx st p qx e => ?_
    have h1 := h.mono st p
    have hN1 := Nat.le_trans hN st.len
    refine SimR.bind e (fun rv' e => sim_o lo hM h1 p hN1 hk.2.1 e) fun l P2 π2 S2 l' st2 p2 q2 e => ?_
    subst q2
    have h2 := h1.mono st2 p2
    have hN2 := Nat.le_trans hN1 st2.len
    refine SimR.bind e (fun rv' e => sim_o hi hM h2 p2 hN2 hk.2.2 e) fun hh P3 π3 S3 h' st3 p3 q3 e => ?_
    subst q3
    unfold liftU at e
    obtain ⟨z, e3, e4⟩ := Option.map_eq_some_iff.mp e
    cases e4
    obtain ⟨d, T, e5, r, f⟩ := slc_sim (((h2.mono st3 p3).hbd).sub (Hd.sub (dif_own (L := lk (.slc a lo hi))))) ((qx.mono (st2.tr0 st3)).sub (by rw [lk]; exact sub_l)) e3
    unfold lift2
    rw [e5]
    exact SimR.retT T p3 ⟨r, fun z => (by cases z), fun _ => f.q (Nat.le_trans hN2 st3.len) fun _ z => z⟩
  | .rev a, own, ρu, ρ, N, π, S, P, rv, hM, h, hp, hN, hk, hu => by
    rw [evU] at hu
    rw [okE] at hk
    rw [renE, evE]
    refine SimR.bind hu (fun rv' e => opd (sim_e a hM h hp hN hk e)) fun x P1 π1 S1 dx st p qx e => ?_
    unfold liftU at e
    obtain ⟨z, e3, e4⟩ := Option.map_eq_some_iff.mp e
    cases e4
    obtain ⟨d, e5, r⟩ := rev_sim qx e3
    unfold lift2
    rw [e5]
    exact SimR.ret p ⟨by rw [lk]; exact r, fun z => (by cases z), fun z => by cases z⟩
  | .call f es, own, ρu, ρ, N, π, S, P, rv, hM, h, hp, hN, hk, hu => by
    rw [evU] at hu
    rw [okE, Bool.and_eq_true] at hk
    rw [renE, evE]
    refine SimR.bind hu (fun rv' e => sim_es es hM h hp hk.2 e) fun us P1 π1 S1 ds st p q e => ?_
    have hb := (h.mono st p).hbd.sub (Hd.sub (dif_own (L := lks es)))
    have z := hC f us P1 rv hk.1 e π1 (Hd Y (dif own (lks es)) ρ) S1 ds hb p q
    cases rv with
    | ok a P' => obtain ⟨π', S', b, e1, s1, p1, q1⟩ := z; exact ⟨π', S', b, e1, s1, p1, by rw [lk]; exact q1, fun z => (by cases z), fun z => by cases z⟩
    | ex c v P' => obtain ⟨π', S', d, e1, s1, p1, q1⟩ := z; exact ⟨π', S', d, e1, s1, p1, Rep.sub (fun r z => .inl z) _ _ q1⟩
  | .bi b es, own, ρu, ρ, N, π, S, P, rv, hM, h, hp, hN, hk, hu => by
    rw [evU] at hu
    rw [okE] at hk
    rw [renE, evE]
    refine SimR.bind hu (fun rv' e => sim_os es hM h hp hN hk e) fun us P1 π1 S1 ds st p q e => ?_
    unfold liftU at e
    obtain ⟨z, e3, e4⟩ := Option.map_eq_some_iff.mp e
    cases e4
    obtain ⟨d, T, e5, r, f⟩ := bi_sim ((h.mono st p).hbd.sub (Hd.sub (dif_own (L := lkOs es)))) q e3
    unfold lift2
    rw [e5]
    exact SimR.retT T p ⟨by rw [lk]; exact r, fun z => (by cases z), fun _ => f.q (Nat.le_trans hN st.len) fun _ z => by rw [lk] at z; exact z⟩
  | .ext a b, own, ρu, ρ, N, π, S, P, rv, hM, h, hp, hN, hk, hu => by rw [okE] at hk; cases hk
  | .app a b, own, ρu, ρ, N, π, S, P, rv, hM, h, hp, hN, hk, hu => by rw [okE] at hk; cases hk
  | .lc vs t k its cs elt, own, ρu, ρ, N, π, S, P, rv, hM, h, hp, hN, hk, hu => by
    rw [evU] at hu
    rw [okE] at hk
    simp only [Bool.and_eq_true] at hk
    obtain ⟨k1, k2, k3, k4, k5⟩ := hk
    rw [renE, evE]
    have hvs : ∀ v ∈ vs, v ∉ own := fun v hv z => by
      have := List.all_eq_true.mp k1 v hv
      simp at this
      exact this (hM v z)
    have hts : ∀ v ∈ t.ix, v ∉ own := fun v hv z => by
      have := List.all_eq_true.mp k2 v hv
      simp at this
      exact this (hM v z)
    refine SimR.bind hu (fun rv' e => sim_os its hM h hp hN k3 e) fun us P1 π1 S1 ds st p q e => ?_
    split at e
    · rename_i xs g
      obtain ⟨ys, gg, e1, r1, hg⟩ := it_sim q g
      rw [e1]
      dsimp only
      have h1 := h.mono st p
      have hN1 := Nat.le_trans hN st.len
      have hgs : ∀ r, gg = some r → r ∉ π1 ∧ S1[r]? = some (.lst ys) := fun r z => (hg r z).2
      -- the inner slots
      have inner : ∀ {u : U} {d : D} {π2 : List Nat} {S2 : Sto} {P2 : Ps} {ρu' : LocU}, Stp π1 S1 π2 S2 noZ → PotsAt π2 S2 P2 → Rep π2 (Hd Y (dif own (lkOs its)) ρ) S2 u d → setU (wipeU ρu vs) t u = some ρu' →
          ∃ ρ', setT (wipeD ρ vs) t d = some ρ' ∧ EnvR π2 Y (dif own (lkOs its)) S2 ρu' ρ' ∧ Hd Y (dif own (lkOs its)) ρ' = Hd Y (dif own (lkOs its)) ρ := fun st2 p2 r e => by
        have hl := (h1.mono st2 p2).leak (lkOs its)
        obtain ⟨a, b⟩ := hl.wipe vs fun v hv z => hvs v hv (dif_own v z)
        obtain ⟨ρ', c1, c2, c3⟩ := a.setT (t := t) (fun v hv z => hts v hv (dif_own v z)) (by rw [b]; exact r) e
        exact ⟨ρ', c1, c2, c3.trans b⟩
      have hM' : ∀ i ∈ dif own (lkOs its), i ∈ M := fun i hi => hM i (dif_own i hi)
      have hdd : ∀ ρ' : Mi.Loc, Hd Y (dif own (lkOs its)) ρ' = Hd Y (dif own (lkOs its)) ρ → (∀ i ∈ dif own (lk (.lc vs t k its cs elt)), ρ'[i]? = ρ[i]?) → ∀ r, Hd Y (dif own (lk (.lc vs t k its cs elt))) ρ r → Hd Y (dif (dif own (lkOs its)) (lk elt)) ρ' r := fun ρ' _ he r z => z.imp id fun ⟨i, hi, e⟩ => by
        have hi' := mem_dif.mp hi
        rw [lk] at hi'
        refine ⟨i, mem_dif.mpr ⟨mem_dif.mpr ⟨hi'.1, fun z => hi'.2 (List.mem_append_left _ z)⟩, fun z => hi'.2 (List.mem_append_right _ (List.mem_append_right _ z))⟩, by rw [he i hi]; exact e⟩
      have slots : ∀ {d : D} {ρ' : Mi.Loc}, setT (wipeD ρ vs) t d = some ρ' → ∀ i ∈ own, ρ'[i]? = ρ[i]? := fun e i hi => by
        have w : ∀ (vs : List Nat), (∀ v ∈ vs, v ∉ own) → (wipeD ρ vs)[i]? = ρ[i]? := fun vs => by
          induction vs with
          | nil => intro _; rfl
          | cons v vs ih =>
            intro hv
            show ((wipeD ρ vs).set v none)[i]? = _
            rw [List.getElem?_set_ne (fun e : v = i => hv v List.mem_cons_self (e ▸ hi))]
            exact ih fun w hw => hv w (List.mem_cons_of_mem _ hw)
        have sa : ∀ (is : List Nat) (ds : List D) (ρ0 : Mi.Loc), (∀ v ∈ is, v ∉ own) → (setAll ρ0 is ds)[i]? = ρ0[i]? := fun is => by
          induction is with
          | nil => intro ds ρ0 _; cases ds <;> rfl
          | cons v is ih =>
            intro ds ρ0 hv
            cases ds with
            | nil => rfl
            | cons d ds =>
              show (setAll (ρ0.set v (some d)) is ds)[i]? = _
              rw [ih _ _ fun w hw => hv w (List.mem_cons_of_mem _ hw)]
              exact List.getElem?_set_ne (fun e : v = i => hv v List.mem_cons_self (e ▸ hi))
        cases t with
        | one j =>
          cases e
          rw [List.getElem?_set_ne (fun e : j = i => hts j List.mem_cons_self (e ▸ hi))]
          exact w vs hvs
        | tup is =>
          cases d0 : ‹D› with
          | tup es =>
            rw [d0] at e
            have e : (if es.length = is.length then some (setAll (wipeD ρ vs) is es) else none) = some _ := e
            split at e
            · cases e
              rw [sa is es _ hts]
              exact w vs hvs
            · cases e
          | _ => rw [d0] at e; cases e
      refine SimR.bind e (fun rv' e => noX_sim e fun rv'' e => comp_sim (X := Hd Y (dif own (lkOs its)) ρ) (X' := Hd Y (dif own (lk (.lc vs t k its cs elt))) ρ) ?_ ?_ ?_ xs ys π1 S1 P1 rv'' Stp.refl p r1 e) fun us2 P3 π3 S3 ds3 st3 p3 q3 e => ?_
      · intro u d π2 S2 P2 rv2 st2 p2 r e
        obtain ⟨ρu', e2, e⟩ := Option.bind_eq_some_iff.mp e
        obtain ⟨ρ', c1, c2, c3⟩ := inner st2 p2 r e2
        rw [c1]
        exact sim_ts cs hM' c2 p2 k4 e
      · intro u d π2 S2 P2 rv2 st2 p2 r e
        obtain ⟨ρu', e2, e⟩ := Option.bind_eq_some_iff.mp e
        obtain ⟨ρ', c1, c2, c3⟩ := inner st2 p2 r e2
        rw [c1]
        exact (sim_e elt hM' c2 p2 (Nat.le_trans hN1 st2.len) k5 e).map fun π' S' P' u d _ _ ⟨r, _, _⟩ => Rep.sub (hdd ρ' c3 fun i hi => slots c1 i (dif_own i hi)) _ _ r
      · intro π2 S2 st2
        exact still_sim hgs st2
      · split at e
        · rename_i g2
          cases e
          rw [if_pos (by rw [q3.length]; exact g2)]
          exact SimR.retT _ p3 ⟨Rep.new_lst ((h1.mono st3 p3).hbd.sub (Hd.sub dif_own)) q3, fun z => (by cases z), fun _ => (fresh_new ((h1.mono st3 p3).hbd.sub (Hd.sub dif_own)) q3).q (Nat.le_trans hN1 st3.len) fun _ z => z⟩
        · cases e
    · cases e
theorem sim_es : ∀ (es : List E) {own : List Nat} {ρu : LocU} {ρ : Mi.Loc} {π : List Nat} {S : Sto} {P : Ps} {rv : Rv (List U)}, (∀ i ∈ own, i ∈ M) → EnvR π Y own S ρu ρ → PotsAt π S P → okEs df dg M es = true → evUs GU calU es ρu P = some rv → SimR π S Y (fun π' S' us ds => Reps π' (Hd Y (dif own (lks es)) ρ) S' us ds) rv (evEs G cal (renEs rf rg es) ρ S)
  | [], own, ρu, ρ, π, S, P, rv, hM, h, hp, hk, hu => by
    rw [evUs] at hu
    cases hu
    rw [renEs, evEs]
    exact SimR.ret hp Reps.nil
  | e :: es, own, ρu, ρ, π, S, P, rv, hM, h, hp, hk, hu => by
    rw [evUs] at hu
    rw [okEs, Bool.and_eq_true] at hk
    rw [renEs, evEs]
    refine SimR.bind hu (fun rv' e1 => sim_e e (N := S.length) hM h hp (Nat.le_refl _) hk.1 e1) fun u P1 π1 S1 d st p q e1 => ?_
    refine SimR.bind e1 (fun rv' e1 => sim_es es hM (h.mono st p) p hk.2 e1) fun us P2 π2 S2 ds st2 p2 q2 e1 => ?_
    cases e1
    exact SimR.ret p2 (Reps.cons (Rep.mono st2 (fun _ z => z.elim) _ _ (Rep.sub (by rw [lks]; exact sub_l) _ _ q.1)) (Reps.sub (by rw [lks]; exact sub_r) _ _ q2))
theorem sim_os : ∀ (es : List E) {own : List Nat} {ρu : LocU} {ρ : Mi.Loc} {N : Nat} {π : List Nat} {S : Sto} {P : Ps} {rv : Rv (List U)}, (∀ i ∈ own, i ∈ M) → EnvR π Y own S ρu ρ → PotsAt π S P → N ≤ S.length → okEs df dg M es = true → evUs GU calU es ρu P = some rv → SimR π S Y (fun π' S' us ds => RepsW π' (Hd Y (dif own (lkOs es)) ρ) S' us ds) rv (evEs G cal (renEs rf rg es) ρ S)
  | [], own, ρu, ρ, N, π, S, P, rv, hM, h, hp, hN, hk, hu => by
    rw [evUs] at hu
    cases hu
    rw [renEs, evEs]
    exact SimR.ret hp rfl
  | e :: es, own, ρu, ρ, N, π, S, P, rv, hM, h, hp, hN, hk, hu => by
    rw [evUs] at hu
    rw [okEs, Bool.and_eq_true] at hk
    rw [renEs, evEs]
    refine SimR.bind hu (fun rv' e1 => opd (sim_e e hM h hp hN hk.1 e1)) fun u P1 π1 S1 d st p q e1 => ?_
    refine SimR.bind e1 (fun rv' e1 => sim_os es hM (h.mono st p) p (Nat.le_trans hN st.len) hk.2 e1) fun us P2 π2 S2 ds st2 p2 q2 e1 => ?_
    cases e1
    exact SimR.ret p2 ⟨d, ds, rfl, (q.mono st2).sub (by rw [lkOs]; exact sub_l), q2.sub (by rw [lkOs]; exact sub_r)⟩
theorem sim_and : ∀ (es : List E) {own : List Nat} {ρu : LocU} {ρ : Mi.Loc} {π : List Nat} {S : Sto} {P : Ps} {rv : Rv U}, (∀ i ∈ own, i ∈ M) → EnvR π Y own S ρu ρ → PotsAt π S P → okEs df dg M es = true → evAndU GU calU es ρu P = some rv → SimR π S Y (fun _ _ u d => ∃ b, u = .bl b ∧ d = .bl b) rv (evAnd G cal (renEs rf rg es) ρ S)
  | [], own, ρu, ρ, π, S, P, rv, hM, h, hp, hk, hu => by rw [evAndU] at hu; cases hu
  | e :: es, own, ρu, ρ, π, S, P, rv, hM, h, hp, hk, hu => by
    rw [okEs, Bool.and_eq_true] at hk
    have one : ∀ rv', tstU (evU GU calU e ρu P) = some rv' → SimR π S Y (fun _ _ a b => a = b) rv' (tst (evE G cal (renE rf rg e) ρ S)) := fun rv' e1 => tst_sim e1 (fun rv' e => opd (sim_e _ (N := S.length) hM h hp (Nat.le_refl _) hk.1 e)) fun _ _ _ _ q => ⟨_, q⟩
    cases es with
    | nil =>
      rw [evAndU] at hu
      rw [renEs, renEs, evAnd]
      refine SimR.bind hu one fun b P1 π1 S1 b' st p q e1 => ?_
      subst q
      cases e1
      exact SimR.ret p ⟨b, rfl, rfl⟩
    | cons e2 es2 =>
      rw [evAndU] at hu
      rw [renEs, renEs, evAnd]
      refine SimR.bind hu one fun b P1 π1 S1 b' st p q e1 => ?_
      subst q
      cases b with
      | true =>
        simp only [if_true] at e1 ⊢
        have z := sim_and (e2 :: es2) hM (h.mono st p) p hk.2 e1
        rw [renEs] at z
        exact z
      | false =>
        simp only [Bool.false_eq_true, if_false] at e1 ⊢
        cases e1
        exact SimR.ret p ⟨false, rfl, rfl⟩
theorem sim_or : ∀ (es : List E) {own : List Nat} {ρu : LocU} {ρ : Mi.Loc} {π : List Nat} {S : Sto} {P : Ps} {rv : Rv U}, (∀ i ∈ own, i ∈ M) → EnvR π Y own S ρu ρ → PotsAt π S P → okEs df dg M es = true → evOrU GU calU es ρu P = some rv → SimR π S Y (fun _ _ u d => ∃ b, u = .bl b ∧ d = .bl b) rv (evOr G cal (renEs rf rg es) ρ S)
  | [], own, ρu, ρ, π, S, P, rv, hM, h, hp, hk, hu => by rw [evOrU] at hu; cases hu
  | e :: es, own, ρu, ρ, π, S, P, rv, hM, h, hp, hk, hu => by
    rw [okEs, Bool.and_eq_true] at hk
    have one : ∀ rv', tstU (evU GU calU e ρu P) = some rv' → SimR π S Y (fun _ _ a b => a = b) rv' (tst (evE G cal (renE rf rg e) ρ S)) := fun rv' e1 => tst_sim e1 (fun rv' e => opd (sim_e _ (N := S.length) hM h hp (Nat.le_refl _) hk.1 e)) fun _ _ _ _ q => ⟨_, q⟩
    cases es with
    | nil =>
      rw [evOrU] at hu
      rw [renEs, renEs, evOr]
      refine SimR.bind hu one fun b P1 π1 S1 b' st p q e1 => ?_
      subst q
      cases e1
      exact SimR.ret p ⟨b, rfl, rfl⟩
    | cons e2 es2 =>
      rw [evOrU] at hu
      rw [renEs, renEs, evOr]
      refine SimR.bind hu one fun b P1 π1 S1 b' st p q e1 => ?_
      subst q
      cases b with
      | true =>
        simp only [if_true] at e1 ⊢
        cases e1
        exact SimR.ret p ⟨true, rfl, rfl⟩
      | false =>
        simp only [Bool.false_eq_true, if_false] at e1 ⊢
        have z := sim_or (e2 :: es2) hM (h.mono st p) p hk.2 e1
        rw [renEs] at z
        exact z
theorem sim_ts : ∀ (es : List E) {own : List Nat} {ρu : LocU} {ρ : Mi.Loc} {π : List Nat} {S : Sto} {P : Ps} {rv : Rv Bool}, (∀ i ∈ own, i ∈ M) → EnvR π Y own S ρu ρ → PotsAt π S P → okEs df dg M es = true → evTU GU calU es ρu P = some rv → SimR π S Y (fun _ _ a b => a = b) rv (evTs G cal (renEs rf rg es) ρ S)
  | [], own, ρu, ρ, π, S, P, rv, hM, h, hp, hk, hu => by
    rw [evTU] at hu
    cases hu
    rw [renEs, evTs]
    exact SimR.ret hp rfl
  | e :: es, own, ρu, ρ, π, S, P, rv, hM, h, hp, hk, hu => by
    rw [evTU] at hu
    rw [okEs, Bool.and_eq_true] at hk
    rw [renEs, evTs]
    refine SimR.bind hu (fun rv' e1 => tst_sim e1 (fun rv' e => opd (sim_e _ (N := S.length) hM h hp (Nat.le_refl _) hk.1 e)) fun _ _ _ _ q => ⟨_, q⟩) fun b P1 π1 S1 b' st p q e1 => ?_
    subst q
    cases b with
    | true =>
      simp only [if_true] at e1 ⊢
      exact sim_ts es hM (h.mono st p) p hk.2 e1
    | false =>
      simp only [Bool.false_eq_true, if_false] at e1 ⊢
      cases e1
      exact SimR.ret p rfl
theorem sim_o : ∀ (o : Option E) {own : List Nat} {ρu : LocU} {ρ : Mi.Loc} {N : Nat} {π : List Nat} {S : Sto} {P : Ps} {rv : Rv (Option Int)}, (∀ i ∈ own, i ∈ M) → EnvR π Y own S ρu ρ → PotsAt π S P → N ≤ S.length → okQ df dg M o = true → evOU GU calU o ρu P = some rv → SimR π S Y (fun _ _ a b => a = b) rv (evO G cal (renO rf rg o) ρ S)
  | none, own, ρu, ρ, N, π, S, P, rv, hM, h, hp, hN, hk, hu => by
    rw [evOU] at hu
    cases hu
    rw [renO, evO]
    exact SimR.ret hp rfl
  | some e, own, ρu, ρ, N, π, S, P, rv, hM, h, hp, hN, hk, hu => by
    rw [evOU] at hu
    rw [okQ] at hk
    rw [renO, evO]
    refine SimR.bind hu (fun rv' e1 => opd (sim_e e hM h hp hN hk e1)) fun u P1 π1 S1 d st p q e1 => ?_
    cases u with
    | int i =>
      cases e1
      cases q
      exact SimR.ret p rfl
    | _ => cases e1
end
end
end Pv

end
section
set_option Elab.async false
set_option linter.all false
set_option maxRecDepth 100000
set_option maxHeartbeats 1000000
/-! Statements: which slots hold a list that nothing else holds. -/
namespace Pv
open PySem L2 Mi
mutual
def mutS : Sm → List Nat
  | .setIx (.var i) _ _ => [i]
  | .expr (.app (.var i) _) => [i]
  | .expr (.ext (.var i) _) => [i]
  | .ite _ a b => mutSs a ++ mutSs b
  | .for_ _ _ _ body => mutSs body
  | .whl _ body => mutSs body
  | _ => []
def mutSs : List Sm → List Nat
  | [] => []
  | s :: ss => mutS s ++ mutSs ss
end
/-- the first of a row that is to be owned -/
def pick (M : List Nat) : List Nat → List E → Option Nat
  | i :: is, e :: es => if (M.contains i && fresh e) = true then some 0 else (pick M is es).map (· + 1)
  | _, _ => none
def meet (a b : Option (List Nat)) : Option (List Nat) := match a, b with
  | none, b => b
  | a, none => a
  | some a, some b => some (a.filter b.contains)
def below (o : List Nat) : Option (List Nat) → Bool
  | none => true
  | some b => o.all b.contains
def bare : List E → List Nat
  | [] => []
  | e :: es => lk e ++ bare es
section
variable (df dg : Nat → Bool) (M : List Nat)
mutual
/-- what is owned behind it (none: it is never left that way) -/
def linS : Sm → List Nat → Option (Option (List Nat))
  | .asg (.one i) e, own => if okE df dg M e = true then some (some (if (M.contains i && fresh e) = true then i :: dif own (i :: lk e) else dif own (i :: lk e))) else none
  | .asg (.tup is) e, own => if okE df dg M e = true then some (some (dif own (is ++ lk e))) else none
  | .setIx (.var i) k e, own => if (own.contains i && (okE df dg M k && (okE df dg M e && !(lk e ++ lk k).contains i))) = true then some (some (dif own (lk e ++ lk k))) else none
  | .setIx _ _ _, _ => none
  | .expr (.app (.var i) e), own => if (own.contains i && (okE df dg M e && !(lk e).contains i)) = true then some (some (dif own (lk e))) else none
  | .expr (.ext (.var i) e), own => if (own.contains i && (okE df dg M e && !(lk e).contains i)) = true then some (some (dif own (lk e))) else none
  | .expr e, own => if okE df dg M e = true then some (some (dif own (lk e))) else none
  | .ret e, own => if okE df dg M e = true then some none else none
  | .ite c a b, own => if okE df dg M c = true then (linSs a (dif own (lk c))).bind fun oa => (linSs b (dif own (lk c))).map fun ob => meet oa ob else none
  | .for_ t k its body, own => if okEs df dg M its = true then
      (linSs body (dif own (t.ix ++ (lkOs its ++ (bare its).filter (mutSs body).contains)))).bind fun b1 =>
        (linSs body ((meet (some (dif own (t.ix ++ (lkOs its ++ (bare its).filter (mutSs body).contains)))) b1).getD [])).bind fun b2 =>
          if below ((meet (some (dif own (t.ix ++ (lkOs its ++ (bare its).filter (mutSs body).contains)))) b1).getD []) b2 = true then some (meet (some (dif own (t.ix ++ (lkOs its ++ (bare its).filter (mutSs body).contains)))) b1) else none
      else none
  | .whl c body, own => if okE df dg M c = true then
      (linSs body (dif own (lk c))).bind fun b1 =>
        (linSs body ((meet (some (dif own (lk c))) b1).getD [])).bind fun b2 =>
          if below ((meet (some (dif own (lk c))) b1).getD []) b2 = true then some (meet (some (dif own (lk c))) b1) else none
      else none
  | .never, _ => some none
def linSs : List Sm → List Nat → Option (Option (List Nat))
  | [], own => some (some own)
  | s :: ss, own => (linS s own).bind fun o => match o with
    | none => some none
    | some o => linSs ss o
end
end
def Zm (own m : List Nat) (ρ : Mi.Loc) : Hid := fun r => ∃ i, i ∈ own ∧ i ∈ m ∧ ρ[i]? = some (some (.ref r))
def SimO (π : List Nat) (S : Sto) (Y : Hid) (Z : Hid) (own : List Nat) (ρ : Mi.Loc) (out : Option (List Nat)) (ou : OU) (x : Option O) : Prop := match ou with
  | .nx ρu' P' => ∃ π' S' ρ' o, out = some o ∧ x = some (.nx ρ' S') ∧ Stp π S π' S' Z ∧ PotsAt π' S' P' ∧ EnvR π' Y o S' ρu' ρ' ∧ ∀ i r, i ∈ o → ρ'[i]? = some (some (.ref r)) → S.length ≤ r ∨ (i ∈ own ∧ ρ[i]? = some (some (.ref r)))
  | .rt u P' => ∃ π' S' d, x = some (.rt d S') ∧ Stp π S π' S' Z ∧ PotsAt π' S' P' ∧ Rep π' Y S' u d
  | .ex c v P' => ∃ π' S' d, x = some (.ex c d S') ∧ Stp π S π' S' Z ∧ PotsAt π' S' P' ∧ Rep π' Y S' v d
section
variable {π π' π2 : List Nat} {X X' Y Z Z' : Hid} {S S' S2 : Sto} {P P' : Ps} {own own' L L' M : List Nat} {ρu : LocU} {ρ : Mi.Loc} {out : Option (List Nat)} {ou : OU} {x : Option O}
theorem EnvR.weak (h : EnvR π Y own S ρu ρ) (hs : ∀ i ∈ own', i ∈ own) : EnvR π Y own' S ρu ρ := by
  have sub := Hd.sub (Y := Y) (ρ := ρ) hs
  refine ⟨h.len, fun i u e => ?_, fun i j r hi hj => h.one i j r (hs i hi) (hs j hj), fun i r hi => h.ow i r (hs i hi), h.bd⟩
  obtain ⟨d, e1, w, q⟩ := h.at_ i u e
  refine ⟨d, e1, w.sub sub, fun n => ?_⟩
  by_cases hi : i ∈ own
  · have no : ∀ r, d = .ref r → ¬ Hd Y own' ρ r := fun r e2 z => by
      subst e2
      rcases z with z | ⟨j, hj, e3⟩
      · exact (h.ow i r hi e1).2.2 z
      · have := h.one i j r hi (hs j hj) e1 e3
        subst this
        exact n hj
    cases u with
    | lst us => obtain ⟨r, ds, e2, h2, h3, hh⟩ := w; exact ⟨r, ds, e2, no r e2, h2, h3, Reps.sub sub _ _ hh⟩
    | dct ks us => obtain ⟨r, ds, e2, h2, h3, h4, hh⟩ := w; exact ⟨r, ds, e2, no r e2, h2, h3, h4, Reps.sub sub _ _ hh⟩
    | _ => exact Rep.sub sub _ _ w
  · exact Rep.sub sub _ _ (q hi)
theorem RepW.bound {u : U} {d : D} (h : RepW π X S u d) : RepW π (fun r => X r ∨ S.length ≤ r) S u d := by
  cases u with
  | lst us => obtain ⟨r, ds, e2, h2, h3, hh⟩ := h; exact ⟨r, ds, e2, h2, h3, hh.bound⟩
  | dct ks us => obtain ⟨r, ds, e2, h2, h3, h4, hh⟩ := h; exact ⟨r, ds, e2, h2, h3, h4, hh.bound⟩
  | _ => exact Rep.bound _ _ h
def isPot : U → Bool
  | .pot _ => true
  | _ => false
/-- a slot comes to own -/
theorem EnvR.get {L : List Nat} {i : Nat} {u : U} {d : D} (h : EnvR π Y own S ρu ρ) (st : Stp π S π' S' noZ) (p : PotsAt π' S' P') (r : Rep π' (Hd Y (dif own L) ρ) S' u d) (f : FreshQ S.length (Hd Y (dif own L) ρ) π' S' u d) (np : isPot u = false) :
    EnvR π' Y (i :: dif own (i :: L)) S' (ρu.set i (some u)) (ρ.set i (some d)) := by
  obtain ⟨n, hn, f1, f2⟩ := f
  have ho : ∀ j ∈ dif own (i :: L), j ∈ own := dif_own
  have hL : ∀ j ∈ dif own (i :: L), j ∈ dif own L := dif_sub fun j hj => List.mem_cons_of_mem _ hj
  have ni : i ∉ dif own (i :: L) := fun z => (mem_dif.mp z).2 List.mem_cons_self
  have h0 := h.weak ho
  have ge : ∀ j ∈ dif own (i :: L), (ρ.set i (some d))[j]? = ρ[j]? := fun j hj => List.getElem?_set_ne (fun e : i = j => ni (e ▸ hj))
  have hself : ∀ q, (ρ.set i (some d))[i]? = some (some (.ref q)) → d = .ref q := fun q e => by
    rw [List.getElem?_set] at e
    split at e
    · split at e
      · simpa using e
      · cases e
    · rename_i z; exact absurd rfl z
  have sub1 : ∀ q, Hd Y (i :: dif own (i :: L)) (ρ.set i (some d)) q → Hd Y (dif own (i :: L)) ρ q ∨ n ≤ q := fun q z => by
    rcases z with z | ⟨j, hj, e⟩
    · exact .inl (.inl z)
    · rcases List.mem_cons.mp hj with rfl | hj
      · exact .inr (f1 q (hself q e))
      · exact .inl (.inr ⟨j, hj, by rw [← ge j hj]; exact e⟩)
  have sub2 : ∀ q, Hd Y (i :: dif own (i :: L)) (ρ.set i (some d)) q → Hd Y (dif own (i :: L)) ρ q ∨ S.length ≤ q := fun q z => (sub1 q z).imp id fun z => Nat.le_trans hn z
  have facts : ∀ q, d = .ref q → q < S'.length ∧ q ∉ π' ∧ ¬ Y q := fun q e => by
    subst e
    cases u with
    | lst us => obtain ⟨a, ds, e, b1, b2, b3, _⟩ := r; cases e; exact ⟨lt_of_at b3, b2, fun z => b1 (.inl z)⟩
    | dct ks us => obtain ⟨a, ds, e, b1, b2, b3, _⟩ := r; cases e; exact ⟨lt_of_at b3, b2, fun z => b1 (.inl z)⟩
    | pot k => cases np
    | non => cases r
    | bl b => cases r
    | int b => cases r
    | str b => cases r
    | tup b => obtain ⟨_, e, _⟩ := r; cases e
    | frz b => obtain ⟨_, e, _⟩ := r; cases e
  refine ⟨by simp [h.len], fun j v e => ?_, fun a b q ha hb ea eb => ?_, fun a q ha ea => ?_, h.bd.mono st p.lt⟩
  · by_cases hj : i = j
    · subst hj
      have hl : i < ρu.length := by
        have := (List.getElem?_eq_some_iff.mp e).1
        simpa using this
      rw [List.getElem?_set_self hl] at e
      cases e
      refine ⟨d, List.getElem?_set_self (by rw [h.len]; exact hl), f2.sub fun q z => (sub1 q z).imp (Hd.sub hL q) id, fun z => absurd List.mem_cons_self z⟩
    · rw [List.getElem?_set_ne hj] at e ⊢
      obtain ⟨d', e1, w, q⟩ := h0.at_ j v e
      exact ⟨d', e1, (w.bound.mono st).sub sub2, fun z => Rep.sub sub2 _ _ (Rep.mono st (fun _ z => z.elim) _ _ (Rep.bound _ _ (q fun z2 => z (List.mem_cons_of_mem _ z2))))⟩
  · rcases List.mem_cons.mp ha with rfl | ha
    · rcases List.mem_cons.mp hb with rfl | hb
      · rfl
      · rw [ge b hb] at eb
        have h1 := (h0.ow b q hb eb).1
        have h2 := f1 q (hself q ea)
        omega
    · rcases List.mem_cons.mp hb with rfl | hb
      · rw [ge a ha] at ea
        have h1 := (h0.ow a q ha ea).1
        have h2 := f1 q (hself q eb)
        omega
      · rw [ge a ha] at ea
        rw [ge b hb] at eb
        exact h0.one a b q ha hb ea eb
  · rcases List.mem_cons.mp ha with rfl | ha
    · exact facts q (hself q ea)
    · rw [ge a ha] at ea
      obtain ⟨c1, c2, c3⟩ := h0.ow a q ha ea
      exact ⟨Nat.lt_of_lt_of_le c1 st.len, fun z => (st.new q z).elim c2 fun z => by omega, c3⟩
theorem SimO.pre (h : SimO π' S' Y Z own ρ out ou x) (st : Stp π S π' S' noZ) : SimO π S Y Z own ρ out ou x := by
  have tr : ∀ {π2 : List Nat} {S2 : Sto}, Stp π' S' π2 S2 Z → Stp π S π2 S2 Z := fun b => (st.weak fun _ z => z.elim).trans b fun r z => .inl z
  cases ou with
  | nx ρu' P' => obtain ⟨π2, S2, ρ', o, e0, e, b, p, en, k⟩ := h; exact ⟨π2, S2, ρ', o, e0, e, tr b, p, en, fun i r hi e => (k i r hi e).imp (fun z => Nat.le_trans st.len z) id⟩
  | rt u P' => obtain ⟨π2, S2, d, e, b, p, q⟩ := h; exact ⟨π2, S2, d, e, tr b, p, q⟩
  | ex c v P' => obtain ⟨π2, S2, d, e, b, p, q⟩ := h; exact ⟨π2, S2, d, e, tr b, p, q⟩
theorem SimO.ofU {Q : List Nat → Sto → U → D → Prop} {xu : Option (Rv U)} {ku : U → Ps → Option OU} {x : Option (R D)} {k : D → Sto → Option O} (hu : ofU xu ku = some ou) (h : ∀ rv, xu = some rv → SimR π S Y Q rv x)
    (hk : ∀ u P' π' S' d, xu = some (.ok u P') → Stp π S π' S' noZ → PotsAt π' S' P' → Q π' S' u d → ku u P' = some ou → SimO π S Y Z own ρ out ou (k d S')) : SimO π S Y Z own ρ out ou (ofE x k) := by
  cases xu with
  | none => cases hu
  | some rv =>
    have h := h rv rfl
    cases rv with
    | ok u P' =>
      obtain ⟨π', S', d, e, st, p, q⟩ := h
      rw [e]
      exact hk u P' π' S' d rfl st p q hu
    | ex c v P' =>
      obtain ⟨π', S', d, e, st, p, q⟩ := h
      cases hu
      rw [e]
      exact ⟨π', S', d, rfl, st.weak fun _ z => z.elim, p, q⟩
theorem SimO.weak (h : SimO π S Y Z own ρ out ou x) (hz : ∀ r, Z r → Z' r) : SimO π S Y Z' own ρ out ou x := by
  cases ou with
  | nx ρu' P' => obtain ⟨π2, S2, ρ', o, e0, e, b, p, en, k⟩ := h; exact ⟨π2, S2, ρ', o, e0, e, b.weak hz, p, en, k⟩
  | rt u P' => obtain ⟨π2, S2, d, e, b, p, q⟩ := h; exact ⟨π2, S2, d, e, b.weak hz, p, q⟩
  | ex c v P' => obtain ⟨π2, S2, d, e, b, p, q⟩ := h; exact ⟨π2, S2, d, e, b.weak hz, p, q⟩
/-- less is owned ahead -/
theorem SimO.more (h : SimO π S Y Z own' ρ out ou x) (hs : ∀ i ∈ own', i ∈ own) : SimO π S Y Z own ρ out ou x := by
  cases ou with
  | nx ρu' P' => obtain ⟨π2, S2, ρ', o, e0, e, b, p, en, k⟩ := h; exact ⟨π2, S2, ρ', o, e0, e, b, p, en, fun i r hi e => (k i r hi e).imp id fun z => ⟨hs i z.1, z.2⟩⟩
  | rt u P' => exact h
  | ex c v P' => exact h
/-- less is owned behind -/
theorem SimO.less {o o' : List Nat} (h : SimO π S Y Z own ρ (some o) ou x) (hs : ∀ i ∈ o', i ∈ o) : SimO π S Y Z own ρ (some o') ou x := by
  cases ou with
  | nx ρu' P' => obtain ⟨π2, S2, ρ', o2, e0, e, b, p, en, k⟩ := h; cases e0; exact ⟨π2, S2, ρ', o', rfl, e, b, p, en.weak hs, fun i r hi e => k i r (hs i hi) e⟩
  | rt u P' => exact h
  | ex c v P' => exact h
theorem SimO.never (h : SimO π S Y Z own ρ none ou x) : SimO π S Y Z own ρ out ou x := by
  cases ou with
  | nx ρu' P' => obtain ⟨π2, S2, ρ', o2, e0, _⟩ := h; cases e0
  | rt u P' => exact h
  | ex c v P' => exact h
theorem Zm.sub {m m' : List Nat} (ho : ∀ i ∈ own', i ∈ own) (hm : ∀ i ∈ m', i ∈ m) : ∀ r, Zm own' m' ρ r → Zm own m ρ r := fun r ⟨i, a, b, c⟩ => ⟨i, ho i a, hm i b, c⟩
theorem below_iff {o b : List Nat} (h : below o (some b) = true) : ∀ i ∈ o, i ∈ b := fun i hi => by
  have := List.all_eq_true.mp h i hi
  simpa using this
/-- a plain assignment's frame -/
theorem SimO.nx {ρu' : LocU} {ρ' : Mi.Loc} {o : List Nat} (p : PotsAt π' S' P') (st : Stp π S π' S' Z) (en : EnvR π' Y o S' ρu' ρ') (k : ∀ i r, i ∈ o → ρ'[i]? = some (some (.ref r)) → S.length ≤ r ∨ (i ∈ own ∧ ρ[i]? = some (some (.ref r)))) :
    SimO π S Y Z own ρ (some o) (.nx ρu' P') (some (.nx ρ' S')) := ⟨π', S', ρ', o, rfl, rfl, st, p, en, k⟩
end
end Pv

end
section
set_option Elab.async false
set_option linter.all false
set_option maxRecDepth 100000
set_option maxHeartbeats 1000000
/-! Statements: the proof. -/
namespace Pv
open PySem L2 Mi
section
variable {π π' π2 : List Nat} {X X' Y Z Z' : Hid} {S S' S2 : Sto} {P P' : Ps} {own own' L L' M o2 m : List Nat} {ρu : LocU} {ρ : Mi.Loc} {out : Option (List Nat)} {ou : OU} {x : Option O}
theorem setAll_slot {i : Nat} : ∀ (is : List Nat) (ds : List D) (ρ0 : Mi.Loc), i ∉ is → (setAll ρ0 is ds)[i]? = ρ0[i]?
  | [], ds, ρ0, _ => by cases ds <;> rfl
  | v :: is, [], ρ0, _ => rfl
  | v :: is, d :: ds, ρ0, h => by
    show (setAll (ρ0.set v (some d)) is ds)[i]? = _
    rw [setAll_slot is ds _ fun z => h (List.mem_cons_of_mem _ z)]
    exact List.getElem?_set_ne (fun e : v = i => h (e ▸ List.mem_cons_self))
theorem setT_slot {i : Nat} {t : Tg} {d : D} {ρ' : Mi.Loc} (e : setT ρ t d = some ρ') (h : i ∉ t.ix) : ρ'[i]? = ρ[i]? := by
  cases t with
  | one j =>
    cases e
    exact List.getElem?_set_ne (fun e : j = i => h (e ▸ List.mem_cons_self))
  | tup is =>
    cases d with
    | tup es =>
      have e : (if es.length = is.length then some (setAll ρ is es) else none) = some ρ' := e
      split at e
      · cases e
        exact setAll_slot is es _ h
      · cases e
    | _ => cases e
theorem for_sim {t : Tg} {bodyU : LocU → Ps → Option OU} {body : Mi.Loc → Sto → Option O} {ok : Sto → Bool} (hE : EnvR π Y o2 S ρu ρ)
    (hb : ∀ π1 S1 P1 ρu1 ρ1 ou, EnvR π1 Y o2 S1 ρu1 ρ1 → PotsAt π1 S1 P1 → bodyU ρu1 P1 = some ou → ∃ b2, below o2 b2 = true ∧ SimO π1 S1 Y (Zm o2 m ρ1) o2 ρ1 b2 ou (body ρ1 S1))
    (ht : ∀ v ∈ t.ix, v ∉ o2) (hok : ∀ π1 S1, Stp π S π1 S1 (Zm o2 m ρ) → ok S1 = true) : ∀ (xs : List U) (ys : List D) (π1 : List Nat) (S1 : Sto) (P1 : Ps) (ρu1 : LocU) (ρ1 : Mi.Loc) (ou : OU), Stp π S π1 S1 (Zm o2 m ρ) → PotsAt π1 S1 P1 → EnvR π1 Y o2 S1 ρu1 ρ1 →
      (∀ i r, i ∈ o2 → ρ1[i]? = some (some (.ref r)) → S.length ≤ r ∨ (i ∈ o2 ∧ ρ[i]? = some (some (.ref r)))) → Reps π (Hd Y o2 ρ) S xs ys → forU t bodyU xs ρu1 P1 = some ou → SimO π S Y (Zm o2 m ρ) o2 ρ (some o2) ou (forGo t body ok ys ρ1 S1)
  | [], _, π1, S1, P1, ρu1, ρ1, ou, st, p, en, k, r, h => by
    have r : _ = [] := r
    rw [r]
    cases h
    exact SimO.nx p st en k
  | x :: xs, _, π1, S1, P1, ρu1, ρ1, ou, st, p, en, k, r, h => by
    obtain ⟨d, es, e, r1, r2⟩ := r
    subst e
    rw [forU] at h
    rw [forGo]
    have zs : ∀ r, Zm o2 m ρ r → Hd Y o2 ρ r ∨ S.length ≤ r := fun r ⟨i, a, _, c⟩ => .inl (.inr ⟨i, a, c⟩)
    have hs : ∀ r, Hd Y o2 ρ1 r → Hd Y o2 ρ r ∨ S.length ≤ r := fun r z => by
      rcases z with z | ⟨i, a, b⟩
      · exact .inl (.inl z)
      · rcases k i r a b with z | z
        · exact .inr z
        · exact .inl (.inr ⟨i, z.1, z.2⟩)
    have rx : Rep π1 (Hd Y o2 ρ1) S1 x d := Rep.sub hs _ _ (Rep.mono st zs _ _ (Rep.bound _ _ r1))
    cases q : setU ρu1 t x with
    | none => rw [q] at h; cases h
    | some ρu2 =>
      rw [q] at h
      obtain ⟨ρ2, e2, en2, hd2⟩ := en.setT ht rx q
      rw [e2]
      have h : (match bodyU ρu2 P1 with
        | some (.nx ρ2 S2) => forU t bodyU xs ρ2 S2
        | some (.rt d S2) => some (.rt d S2)
        | some (.ex c v S2) => some (.ex c v S2)
        | none => none) = some ou := h
      show SimO π S Y (Zm o2 m ρ) o2 ρ (some o2) ou (match body ρ2 S1 with
        | some (.nx ρ2 S2) => if ok S2 = true then forGo t body ok es ρ2 S2 else none
        | some (.rt d S2) => some (.rt d S2)
        | some (.ex c v S2) => some (.ex c v S2)
        | none => none)
      have sl : ∀ i ∈ o2, ρ2[i]? = ρ1[i]? := fun i hi => setT_slot e2 fun z => ht i z hi
      have zt : ∀ r, Zm o2 m ρ2 r → Zm o2 m ρ r ∨ r ∈ π ∨ S.length ≤ r := fun r ⟨i, a, b, c⟩ => by
        rw [sl i a] at c
        rcases k i r a c with z | z
        · exact .inr (.inr z)
        · exact .inl ⟨i, a, b, z.2⟩
      cases q2 : bodyU ρu2 P1 with
      | none => rw [q2] at h; cases h
      | some ou1 =>
        rw [q2] at h
        obtain ⟨b2, hb2, z⟩ := hb π1 S1 P1 ρu2 ρ2 ou1 en2 p q2
        cases ou1 with
        | nx ρu3 P3 =>
          obtain ⟨π3, S3, ρ3, o, e0, e, st3, p3, en3, k3⟩ := z
          subst e0
          have hbo := below_iff hb2
          rw [e]
          dsimp only at h ⊢
          have stt := st.trans st3 zt
          rw [if_pos (hok π3 S3 stt)]
          refine for_sim hE hb ht hok xs es π3 S3 P3 ρu3 ρ3 ou stt p3 (en3.weak hbo) (fun i r hi e => ?_) r2 h
          rcases k3 i r (hbo i hi) e with z | z
          · exact .inl (Nat.le_trans st.len z)
          · rw [sl i z.1] at z
            exact k i r z.1 z.2
        | rt u P3 =>
          obtain ⟨π3, S3, d3, e, st3, p3, r3⟩ := z
          cases h
          rw [e]
          exact ⟨π3, S3, d3, rfl, st.trans st3 zt, p3, r3⟩
        | ex c v P3 =>
          obtain ⟨π3, S3, d3, e, st3, p3, r3⟩ := z
          cases h
          rw [e]
          exact ⟨π3, S3, d3, rfl, st.trans st3 zt, p3, r3⟩
theorem whl_sim {condU : LocU → Ps → Option (Rv Bool)} {cond : Mi.Loc → Sto → Option (R Bool)} {bodyU : LocU → Ps → Option OU} {body : Mi.Loc → Sto → Option O} (hE : EnvR π Y o2 S ρu ρ)
    (hc : ∀ π1 S1 P1 ρu1 ρ1 rv, EnvR π1 Y o2 S1 ρu1 ρ1 → PotsAt π1 S1 P1 → condU ρu1 P1 = some rv → SimR π1 S1 Y (fun _ _ a b => a = b) rv (cond ρ1 S1))
    (hb : ∀ π1 S1 P1 ρu1 ρ1 ou, EnvR π1 Y o2 S1 ρu1 ρ1 → PotsAt π1 S1 P1 → bodyU ρu1 P1 = some ou → ∃ b2, below o2 b2 = true ∧ SimO π1 S1 Y (Zm o2 m ρ1) o2 ρ1 b2 ou (body ρ1 S1)) :
    ∀ (n : Nat) (π1 : List Nat) (S1 : Sto) (P1 : Ps) (ρu1 : LocU) (ρ1 : Mi.Loc) (ou : OU), Stp π S π1 S1 (Zm o2 m ρ) → PotsAt π1 S1 P1 → EnvR π1 Y o2 S1 ρu1 ρ1 →
      (∀ i r, i ∈ o2 → ρ1[i]? = some (some (.ref r)) → S.length ≤ r ∨ (i ∈ o2 ∧ ρ[i]? = some (some (.ref r)))) → whlU condU bodyU n ρu1 P1 = some ou → SimO π S Y (Zm o2 m ρ) o2 ρ (some o2) ou (whlGo cond body n ρ1 S1)
  | 0, π1, S1, P1, ρu1, ρ1, ou, st, p, en, k, h => by cases h
  | n + 1, π1, S1, P1, ρu1, ρ1, ou, st, p, en, k, h => by
    rw [whlU] at h
    rw [whlGo]
    cases q : condU ρu1 P1 with
    | none => rw [q] at h; cases h
    | some rv =>
      rw [q] at h
      have z := hc π1 S1 P1 ρu1 ρ1 rv en p q
      cases rv with
      | ex c v P2 =>
        obtain ⟨π2, S2, d2, e, st2, p2, r2⟩ := z
        cases h
        rw [e]
        exact ⟨π2, S2, d2, rfl, st.trans st2 (fun _ z => z.elim), p2, r2⟩
      | ok b P2 =>
        obtain ⟨π2, S2, b', e, st2, p2, e3⟩ := z
        subst e3
        rw [e]
        have st2' := st.trans st2 fun _ z => z.elim
        have en2 := en.mono st2 p2
        cases b with
        | false =>
          cases h
          exact SimO.nx p2 st2' en2 k
        | true =>
          dsimp only at h ⊢
          cases q2 : bodyU ρu1 P2 with
          | none => rw [q2] at h; cases h
          | some ou1 =>
            rw [q2] at h
            have zt : ∀ r, Zm o2 m ρ1 r → Zm o2 m ρ r ∨ r ∈ π ∨ S.length ≤ r := fun r ⟨i, a, b, c⟩ => by
              rcases k i r a c with z | z
              · exact .inr (.inr z)
              · exact .inl ⟨i, a, b, z.2⟩
            obtain ⟨b2, hb2, z⟩ := hb π2 S2 P2 ρu1 ρ1 ou1 en2 p2 q2
            cases ou1 with
            | nx ρu3 P3 =>
              obtain ⟨π3, S3, ρ3, o, e0, e, st3, p3, en3, k3⟩ := z
              subst e0
              have hbo := below_iff hb2
              rw [e]
              dsimp only at h ⊢
              refine whl_sim hE hc hb n π3 S3 P3 ρu3 ρ3 ou (st2'.trans st3 zt) p3 (en3.weak hbo) (fun i r hi e => ?_) h
              rcases k3 i r (hbo i hi) e with z | z
              · exact .inl (Nat.le_trans st2'.len z)
              · exact k i r z.1 z.2
            | rt u P3 =>
              obtain ⟨π3, S3, d3, e, st3, p3, r3⟩ := z
              cases h
              rw [e]
              exact ⟨π3, S3, d3, rfl, st2'.trans st3 zt, p3, r3⟩
            | ex c v P3 =>
              obtain ⟨π3, S3, d3, e, st3, p3, r3⟩ := z
              cases h
              rw [e]
              exact ⟨π3, S3, d3, rfl, st2'.trans st3 zt, p3, r3⟩
theorem meet_l {oa ob : Option (List Nat)} (h : SimO π S Y Z own ρ oa ou x) : SimO π S Y Z own ρ (meet oa ob) ou x := by
  cases oa with
  | none => exact h.never
  | some a =>
    cases ob with
    | none => exact h
    | some b => exact h.less fun i hi => (List.mem_filter.mp hi).1
theorem meet_r {oa ob : Option (List Nat)} (h : SimO π S Y Z own ρ ob ou x) : SimO π S Y Z own ρ (meet oa ob) ou x := by
  cases oa with
  | none => cases ob <;> exact h
  | some a =>
    cases ob with
    | none => exact h.never
    | some b => exact h.less fun i hi => by have := (List.mem_filter.mp hi).2; simpa using this
theorem meet_own {o1 : List Nat} {b1 : Option (List Nat)} : ∃ o, meet (some o1) b1 = some o ∧ ∀ i ∈ o, i ∈ o1 := by
  cases b1 with
  | none => exact ⟨o1, rfl, fun _ h => h⟩
  | some b => exact ⟨_, rfl, fun i hi => (List.mem_filter.mp hi).1⟩
/-! ### no pot is new -/
theorem lit_np {d : D} {u : U} (h : litU d = some u) : isPot u = false := by
  cases d <;> first | (cases h; rfl) | cases h
theorem op_np {o : Op2} {x y u : U} (h : opU o x y = some u) : isPot u = false := by
  unfold opU at h
  split at h <;> first | (cases h; rfl) | (split at h <;> first | (cases h; rfl) | cases h) | cases h
theorem slc_np {x u : U} {lo hi : Option Int} (h : slcU x lo hi = some u) : isPot u = false := by
  cases x <;> first | (cases h; rfl) | cases h
theorem bi_np {b : Bi} {xs : List U} {u : U} (h : biU b xs = some u) : isPot u = false := by
  unfold biU at h
  split at h <;> first
    | (cases h; rfl)
    | (split at h <;> first | (cases h; rfl) | cases h)
    | (obtain ⟨a, _, e⟩ := Option.map_eq_some_iff.mp h; cases e; rfl)
    | (obtain ⟨a, _, e⟩ := Option.bind_eq_some_iff.mp h; split at e <;> first | (cases e; rfl) | cases e)
    | cases h
theorem bndV_some {α β : Type} {xu : Option (Rv α)} {k : α → Ps → Option (Rv β)} {a : β} {P' : Ps} (h : bndV xu k = some (.ok a P')) : ∃ b P1, xu = some (.ok b P1) ∧ k b P1 = some (.ok a P') := by
  cases xu with
  | none => cases h
  | some r =>
    cases r with
    | ok b P1 => exact ⟨b, P1, rfl, h⟩
    | ex c v P1 => cases h
theorem lift_some {xu : Option U} {a : U} {P P' : Ps} (h : liftU xu P = some (.ok a P')) : xu = some a := by
  unfold liftU at h
  obtain ⟨b, e, e2⟩ := Option.map_eq_some_iff.mp h
  cases e2
  exact e
theorem fresh_np {GU : Nat → Option U} {calU : CalU} {e : E} {u : U} (hf : fresh e = true) (h : evU GU calU e ρu P = some (.ok u P')) : isPot u = false := by
  cases e with
  | lit d =>
    rw [evU] at h
    obtain ⟨a, e1, e2⟩ := Option.map_eq_some_iff.mp h
    cases e2
    exact lit_np e1
  | lst es =>
    rw [evU] at h
    obtain ⟨a, P1, _, h⟩ := bndV_some h
    split at h <;> first | (cases h; rfl) | cases h
  | dic ks es =>
    rw [evU] at h
    obtain ⟨a, P1, _, h⟩ := bndV_some h
    split at h <;> first | (cases h; rfl) | cases h
  | op o a b =>
    rw [evU] at h
    obtain ⟨a, P1, _, h⟩ := bndV_some h
    obtain ⟨b, P2, _, h⟩ := bndV_some h
    exact op_np (lift_some h)
  | slc a lo hi =>
    rw [evU] at h
    obtain ⟨a, P1, _, h⟩ := bndV_some h
    obtain ⟨b, P2, _, h⟩ := bndV_some h
    obtain ⟨c, P3, _, h⟩ := bndV_some h
    exact slc_np (lift_some h)
  | bi b es =>
    rw [evU] at h
    obtain ⟨a, P1, _, h⟩ := bndV_some h
    exact bi_np (lift_some h)
  | lc vs t k its cs elt =>
    rw [evU] at h
    obtain ⟨a, P1, _, h⟩ := bndV_some h
    split at h
    · obtain ⟨b, P2, _, h⟩ := bndV_some h
      split at h <;> first | (cases h; rfl) | cases h
    · cases h
  | _ => cases hf
end
end Pv

end
section
set_option Elab.async false
set_option linter.all false
set_option maxRecDepth 100000
set_option maxHeartbeats 1000000
/-! Statements and defs: what the values say is what the store says. -/
namespace Pv
open PySem L2 Mi
section
variable {π π' π2 : List Nat} {X X' Y Z Z' : Hid} {S S' S2 : Sto} {P P' : Ps} {own own' L L' M o2 m : List Nat} {ρu : LocU} {ρ : Mi.Loc} {out : Option (List Nat)} {ou : OU} {x : Option O}
/-- an owned slot's list changes -/
theorem EnvR.upd {i q : Nat} {us vs : List U} {ds es : List D} (h : EnvR π Y own S ρu ρ) (hi : i ∈ own) (e : ρ[i]? = some (some (.ref q))) (hq : q < S.length) (r : Reps π (Hd Y own ρ) S vs es) :
    EnvR π Y own (S.set q (.lst es)) (ρu.set i (some (.lst vs))) ρ := by
  have st : Stp π S π (S.set q (.lst es)) (fun r => r = q) := ⟨by simp, fun j _ _ n => List.getElem?_set_ne (fun e => n e.symm), fun _ _ h => h, fun _ h => .inl h⟩
  have hz : ∀ r, (fun r => r = q) r → Hd Y own ρ r := fun r z => by cases z; exact .inr ⟨i, hi, e⟩
  have hp := (h.ow i q hi e).2.1
  refine ⟨by rw [List.length_set]; exact h.len, fun j v ev => ?_, h.one, fun a b ha hb => by rw [List.length_set]; exact h.ow a b ha hb, ⟨fun r hr => by rw [List.length_set]; exact h.bd.x r hr, fun r hr => by rw [List.length_set]; exact h.bd.p r hr⟩⟩
  by_cases hj : i = j
  · subst hj
    have hl : i < ρu.length := by
      have := (List.getElem?_eq_some_iff.mp ev).1
      simpa using this
    rw [List.getElem?_set_self hl] at ev
    cases ev
    exact ⟨_, e, ⟨q, es, rfl, hp, List.getElem?_set_self hq, Reps.mono st hz _ _ r⟩, fun z => absurd hi z⟩
  · rw [List.getElem?_set_ne hj] at ev
    obtain ⟨d, e1, w, z⟩ := h.at_ j v ev
    refine ⟨d, e1, ?_, fun n => Rep.mono st hz _ _ (z n)⟩
    by_cases hjo : j ∈ own
    · have nq : ∀ r, d = .ref r → r ≠ q := fun r e2 e3 => by
        subst e2 e3
        exact hj (h.one i j _ hi hjo e e1)
      cases v with
      | lst us => obtain ⟨r, ds, e2, h2, h3, hh⟩ := w; exact ⟨r, ds, e2, h2, st.keep h3 h2 (nq r e2), Reps.mono st hz _ _ hh⟩
      | dct ks us => obtain ⟨r, ds, e2, h2, h3, h4, hh⟩ := w; exact ⟨r, ds, e2, h2, st.keep h3 h2 (nq r e2), h4, Reps.mono st hz _ _ hh⟩
      | _ => exact Rep.mono st hz _ _ w
    · exact (Rep.mono st hz _ _ (z hjo)).w
theorem slot_sim {i : Nat} {us : List U} (h : EnvR π Y own S ρu ρ) (e : slot ρu i = some us) : ∃ q ds, ρ[i]? = some (some (.ref q)) ∧ q ∉ π ∧ S[q]? = some (.lst ds) ∧ Reps π (Hd Y own ρ) S us ds := by
  unfold slot at e
  split at e
  · rename_i xs q
    cases e
    obtain ⟨d, e1, w, _⟩ := h.at_ i _ q
    obtain ⟨r, ds, e2, h2, h3, hh⟩ := w
    subst e2
    exact ⟨r, ds, e1, h2, h3, hh⟩
  · cases e
theorem PotsAt.set {q : Nat} {o : SO} (p : PotsAt π S P) (h : q ∉ π) : PotsAt π (S.set q o) P :=
  ⟨p.len, p.nod, fun k r a b c e f => (List.getElem?_set_ne (fun e2 : q = r => h (e2 ▸ List.mem_of_getElem? e))).trans (p.at_ k r a b c e f)⟩
/-- a list in a slot is laid anew: the frame -/
theorem upd_sim {i q : Nat} {vs : List U} {es : List D} (h : EnvR π Y own S ρu ρ) (p : PotsAt π S P) (hi : i ∈ own) (e : ρ[i]? = some (some (.ref q))) (hq : q < S.length) (hm : i ∈ m) (r : Reps π (Hd Y own ρ) S vs es) :
    SimO π S Y (Zm own m ρ) own ρ (some own) (.nx (ρu.set i (some (.lst vs))) P) (some (.nx ρ (S.set q (.lst es)))) :=
  SimO.nx (p.set (h.ow i q hi e).2.1) ⟨by simp, fun j _ _ n => List.getElem?_set_ne (fun e2 : q = j => n ⟨i, hi, hm, e2 ▸ e⟩), fun _ _ h => h, fun _ h => .inl h⟩ (h.upd (ds := es) (us := vs) hi e hq r) fun j r hj e => .inr ⟨hj, e⟩
end
section
variable {df dg : Nat → Bool} {rf rg : Nat → Nat} {GU : Nat → Option U} {G : List D} {calU : CalU} {cal : Cal} {M : List Nat} {Wn : Nat} (hG : GOk dg rg GU G) (hC : CSim df rf calU cal) {Y : Hid} {own : List Nat} {ρu : LocU} {ρ : Mi.Loc} {π : List Nat} {S : Sto} {P : Ps} {ou : OU} {out : Option (List Nat)}
theorem exU_expr {e : E} (h : okE df dg M e = true) : exU GU Wn calU (.expr e) ρu P = ofU (evU GU calU e ρu P) fun _ S1 => some (.nx ρu S1) := by
  cases e <;> first | (rw [okE] at h; cases h; done) | (rw [exU] <;> (intros; contradiction))
theorem linS_expr {e : E} (h : okE df dg M e = true) : linS df dg M (.expr e) own = some (some (dif own (lk e))) := by
  cases e <;> first | (rw [okE] at h; cases h; done) | (rw [linS, if_pos h] <;> (intros; contradiction))
theorem mutS_expr {e : E} (h : okE df dg M e = true) : mutS (.expr e) = [] := by
  cases e <;> first | (rw [okE] at h; cases h; done) | rfl
include hG hC in
theorem sim_app {i : Nat} {e : E} (hM : ∀ i ∈ own, i ∈ M) (h : EnvR π Y own S ρu ρ) (hp : PotsAt π S P) (hl : linS df dg M (.expr (.app (.var i) e)) own = some out) (hu : exU GU Wn calU (.expr (.app (.var i) e)) ρu P = some ou) :
    SimO π S Y (Zm own (mutS (.expr (.app (.var i) e))) ρ) own ρ out ou (exS G Wn cal (renS rf rg (.expr (.app (.var i) e))) ρ S) := by
  rw [linS] at hl
  split at hl
  · rename_i g
    simp only [Bool.and_eq_true, Bool.not_eq_true', List.contains_iff_mem] at g
    obtain ⟨g1, g2, g3⟩ := g
    have g3 : i ∉ lk e := fun z => by rw [List.contains_iff_mem.mpr z] at g3; cases g3
    cases hl
    rw [exU] at hu
    obtain ⟨us, q1, hu⟩ := Option.bind_eq_some_iff.mp hu
    obtain ⟨q, ds, e1, a1, a2, _⟩ := slot_sim h q1
    rw [renS, renE, renE, exS, evE, evE, e1]
    simp only [bnd_ok]
    have hil : isL S (.ref q) = true := by show (lstAt S q).isSome = true; rw [lstAt_iff a2]; rfl
    rw [if_pos hil]
    have key : SimO π S Y (Zm own (mutS (.expr (.app (.var i) e))) ρ) own ρ (some (dif own (lk e))) ou (ofE (evE G cal (renE rf rg e) ρ S) fun d S1 => ofE (appD S1 (.ref q) d) fun _ S2 => some (.nx ρ S2)) := by
      refine SimO.ofU hu (fun rv e => sim_e hG hC _ (N := S.length) hM h hp (Nat.le_refl _) g2 e) fun u P1 π1 S1 d _ st p qq ee => ?_
      have h1 := (h.mono st p).leak (lk e)
      obtain ⟨q', ds', e1', a1', a2', a3'⟩ := slot_sim h1 q1
      rw [e1] at e1'
      cases e1'
      have hio : i ∈ dif own (lk e) := mem_dif.mpr ⟨g1, g3⟩
      split at ee
      · rename_i g4
        cases ee
        have ea : appD S1 (.ref q) d = some (.ok .non (S1.set q (.lst (ds' ++ [d])))) := by
          show (match lstAt S1 q with
            | some xs => if xs.length < sizeLine then some (R.ok D.non (S1.set q (.lst (xs ++ [d])))) else none
            | none => none) = _
          rw [lstAt_iff a2']
          exact if_pos (by rw [a3'.length]; exact g4)
        rw [ea]
        have z := upd_sim (m := mutS (.expr (.app (.var i) e))) (P := P1) h1 p hio e1 (lt_of_at a2') List.mem_cons_self (a3'.append (Reps.cons qq.1 Reps.nil))
        exact ((z.weak (Zm.sub dif_own fun _ h => h)).more dif_own).pre st
      · cases ee
    have eq : ofE (bnd (evE G cal (renE rf rg e) ρ S) fun y S2 => appD S2 (D.ref q) y) (fun _ S1 => some (.nx ρ S1)) = ofE (evE G cal (renE rf rg e) ρ S) fun d S1 => ofE (appD S1 (.ref q) d) fun _ S2 => some (.nx ρ S2) := by
      cases evE G cal (renE rf rg e) ρ S with
      | none => rfl
      | some r => cases r <;> rfl
    rw [eq]
    exact key
  · cases hl
include hG hC in
theorem sim_ext {i : Nat} {e : E} (hM : ∀ i ∈ own, i ∈ M) (h : EnvR π Y own S ρu ρ) (hp : PotsAt π S P) (hl : linS df dg M (.expr (.ext (.var i) e)) own = some out) (hu : exU GU Wn calU (.expr (.ext (.var i) e)) ρu P = some ou) :
    SimO π S Y (Zm own (mutS (.expr (.ext (.var i) e))) ρ) own ρ out ou (exS G Wn cal (renS rf rg (.expr (.ext (.var i) e))) ρ S) := by
  rw [linS] at hl
  split at hl
  · rename_i g
    simp only [Bool.and_eq_true, Bool.not_eq_true', List.contains_iff_mem] at g
    obtain ⟨g1, g2, g3⟩ := g
    have g3 : i ∉ lk e := fun z => by rw [List.contains_iff_mem.mpr z] at g3; cases g3
    cases hl
    rw [exU] at hu
    obtain ⟨us, q1, hu⟩ := Option.bind_eq_some_iff.mp hu
    obtain ⟨q, ds, e1, a1, a2, _⟩ := slot_sim h q1
    rw [renS, renE, renE, exS, evE, evE, e1]
    simp only [bnd_ok]
    have hil : isL S (.ref q) = true := by show (lstAt S q).isSome = true; rw [lstAt_iff a2]; rfl
    rw [if_pos hil]
    have key : SimO π S Y (Zm own (mutS (.expr (.ext (.var i) e))) ρ) own ρ (some (dif own (lk e))) ou (ofE (evE G cal (renE rf rg e) ρ S) fun d S1 => ofE (extD S1 (.ref q) d) fun _ S2 => some (.nx ρ S2)) := by
      refine SimO.ofU hu (fun rv e => sim_e hG hC _ (N := S.length) hM h hp (Nat.le_refl _) g2 e) fun u P1 π1 S1 d _ st p qq ee => ?_
      have h1 := (h.mono st p).leak (lk e)
      obtain ⟨q', ds', e1', a1', a2', a3'⟩ := slot_sim h1 q1
      rw [e1] at e1'
      cases e1'
      have hio : i ∈ dif own (lk e) := mem_dif.mpr ⟨g1, g3⟩
      cases u with
      | lst ys =>
        dsimp only at ee
        obtain ⟨qy, es, rfl, _, _, b3, b4⟩ := qq.1
        split at ee
        · rename_i g4
          cases ee
          have ea : extD S1 (.ref q) (.ref qy) = some (.ok .non (S1.set q (.lst (ds' ++ es)))) := by
            show (match lstAt S1 q, lstAt S1 qy with
              | some xs, some ys => if xs.length + ys.length ≤ sizeLine then some (R.ok D.non (S1.set q (.lst (xs ++ ys)))) else none
              | _, _ => none) = _
            rw [lstAt_iff a2', lstAt_iff b3]
            exact if_pos (by rw [a3'.length, b4.length]; exact g4)
          rw [ea]
          have z := upd_sim (m := mutS (.expr (.ext (.var i) e))) (P := P1) h1 p hio e1 (lt_of_at a2') List.mem_cons_self (a3'.append b4)
          exact ((z.weak (Zm.sub dif_own fun _ h => h)).more dif_own).pre st
        · cases ee
      | _ => cases ee
    have eq : ofE (bnd (evE G cal (renE rf rg e) ρ S) fun y S2 => extD S2 (D.ref q) y) (fun _ S1 => some (.nx ρ S1)) = ofE (evE G cal (renE rf rg e) ρ S) fun d S1 => ofE (extD S1 (.ref q) d) fun _ S2 => some (.nx ρ S2) := by
      cases evE G cal (renE rf rg e) ρ S with
      | none => rfl
      | some r => cases r <;> rfl
    rw [eq]
    exact key
  · cases hl
include hG hC in
theorem sim_set {i : Nat} {k e : E} (hM : ∀ i ∈ own, i ∈ M) (h : EnvR π Y own S ρu ρ) (hp : PotsAt π S P) (hl : linS df dg M (.setIx (.var i) k e) own = some out) (hu : exU GU Wn calU (.setIx (.var i) k e) ρu P = some ou) :
    SimO π S Y (Zm own (mutS (.setIx (.var i) k e)) ρ) own ρ out ou (exS G Wn cal (renS rf rg (.setIx (.var i) k e)) ρ S) := by
  rw [linS] at hl
  split at hl
  · rename_i g
    simp only [Bool.and_eq_true, Bool.not_eq_true', List.contains_iff_mem] at g
    obtain ⟨g1, g0, g2, g3⟩ := g
    have g3 : i ∉ lk e ++ lk k := fun z => by rw [List.contains_iff_mem.mpr z] at g3; cases g3
    cases hl
    rw [exU] at hu
    obtain ⟨us, q1, hu⟩ := Option.bind_eq_some_iff.mp hu
    rw [renS, exS]
    refine SimO.ofU hu (fun rv e => sim_e hG hC _ (N := S.length) hM h hp (Nat.le_refl _) g2 e) fun u P1 π1 S1 d _ st p qq e1 => ?_
    have h1 := h.mono st p
    obtain ⟨q, ds, e2, a1, a2, _⟩ := slot_sim h1 q1
    have ev : evE G cal (renE rf rg (.var i)) ρ S1 = some (.ok (.ref q) S1) := by rw [renE, evE, e2]
    rw [ev]
    have key : SimO π1 S1 Y (Zm own (mutS (.setIx (.var i) k e)) ρ) own ρ (some (dif own (lk e ++ lk k))) ou (ofE (evE G cal (renE rf rg k) ρ S1) fun y S3 => match D.ref q, y with
        | .ref r, .int n => match S3[r]? with
          | some (.lst xs) => match ixN xs.length n with
            | some j => some (.nx ρ (S3.set r (.lst (xs.set j d))))
            | none => none
          | _ => none
        | _, _ => none) := by
      refine SimO.ofU e1 (fun rv e => opd (sim_e hG hC _ (N := S1.length) hM h1 p (Nat.le_refl _) g0 e)) fun y P2 π2 S2 dy _ st2 p2 qy e3 => ?_
      have h2 := (h1.mono st2 p2).leak (lk e ++ lk k)
      obtain ⟨q', ds', e1', a1', a2', a3'⟩ := slot_sim h2 q1
      rw [e2] at e1'
      cases e1'
      have hio : i ∈ dif own (lk e ++ lk k) := mem_dif.mpr ⟨g1, g3⟩
      cases y with
      | int n =>
        cases qy
        obtain ⟨j, e4, e5⟩ := Option.map_eq_some_iff.mp e3
        cases e5
        dsimp only
        rw [a2']
        dsimp only
        rw [a3'.length, e4]
        have z := upd_sim (m := mutS (.setIx (.var i) k e)) (P := P2) h2 p2 hio e2 (lt_of_at a2') List.mem_cons_self (a3'.set (Rep.mono st2 (fun _ z => z.elim) _ _ (Rep.sub sub_l _ _ qq.1)) j)
        exact ((z.weak (Zm.sub dif_own fun _ h => h)).more dif_own).pre st2
      | _ => cases e3
    exact key.pre st
  · cases hl
mutual
theorem lin_sub : ∀ (s : Sm) {own o : List Nat}, linS df dg M s own = some (some o) → (∀ i ∈ own, i ∈ M) → ∀ i ∈ o, i ∈ M
  | .asg (.one j) e, own, o, h, hM => by
    rw [linS] at h
    split at h
    · cases h
      intro i hi
      split at hi
      · rename_i g
        rcases List.mem_cons.mp hi with rfl | hi
        · rw [Bool.and_eq_true] at g
          exact List.contains_iff_mem.mp g.1
        · exact hM i (dif_own i hi)
      · exact hM i (dif_own i hi)
    · cases h
  | .asg (.tup is) e, own, o, h, hM => by
    rw [linS] at h
    split at h
    · cases h
      exact fun i hi => hM i (dif_own i hi)
    · cases h
  | .setIx a k e, own, o, h, hM => by
    cases a with
    | var j =>
      rw [linS] at h
      split at h
      · cases h
        exact fun i hi => hM i (dif_own i hi)
      · cases h
    | _ => rw [linS] at h <;> first | (cases h; done) | (intros; contradiction)
  | .expr e, own, o, h, hM => by
    by_cases hk : okE df dg M e = true
    · rw [linS_expr hk] at h
      cases h
      exact fun i hi => hM i (dif_own i hi)
    · cases e with
      | app a b =>
        cases a with
        | var j =>
          rw [linS] at h
          split at h
          · cases h
            exact fun i hi => hM i (dif_own i hi)
          · cases h
        | _ => rw [linS, if_neg hk] at h <;> first | (cases h; done) | (intros; contradiction)
      | ext a b =>
        cases a with
        | var j =>
          rw [linS] at h
          split at h
          · cases h
            exact fun i hi => hM i (dif_own i hi)
          · cases h
        | _ => rw [linS, if_neg hk] at h <;> first | (cases h; done) | (intros; contradiction)
      | _ => rw [linS, if_neg hk] at h <;> first | (cases h; done) | (intros; contradiction)
  | .ret e, own, o, h, hM => by
    rw [linS] at h
    split at h <;> cases h
  | .ite c a b, own, o, h, hM => by
    rw [linS] at h
    split at h
    · obtain ⟨oa, e1, h⟩ := Option.bind_eq_some_iff.mp h
      obtain ⟨ob, e2, h⟩ := Option.map_eq_some_iff.mp h
      have hd : ∀ i ∈ dif own (lk c), i ∈ M := fun i hi => hM i (dif_own i hi)
      cases oa with
      | none =>
        cases ob with
        | none => cases h
        | some b' => cases h; exact lins_sub b e2 hd
      | some a' =>
        cases ob with
        | none => cases h; exact lins_sub a e1 hd
        | some b' => cases h; exact fun i hi => lins_sub a e1 hd i (List.mem_filter.mp hi).1
    · cases h
  | .for_ t k its body, own, o, h, hM => by
    rw [linS] at h
    split at h
    · obtain ⟨b1, e1, h⟩ := Option.bind_eq_some_iff.mp h
      obtain ⟨b2, e2, h⟩ := Option.bind_eq_some_iff.mp h
      split at h
      · obtain ⟨o', e3, e4⟩ := meet_own (o1 := dif own (t.ix ++ (lkOs its ++ (bare its).filter (mutSs body).contains))) (b1 := b1)
        rw [e3] at h
        cases h
        exact fun i hi => hM i (dif_own i (e4 i hi))
      · cases h
    · cases h
  | .whl c body, own, o, h, hM => by
    rw [linS] at h
    split at h
    · obtain ⟨b1, e1, h⟩ := Option.bind_eq_some_iff.mp h
      obtain ⟨b2, e2, h⟩ := Option.bind_eq_some_iff.mp h
      split at h
      · obtain ⟨o', e3, e4⟩ := meet_own (o1 := dif own (lk c)) (b1 := b1)
        rw [e3] at h
        cases h
        exact fun i hi => hM i (dif_own i (e4 i hi))
      · cases h
    · cases h
  | .never, own, o, h, hM => by rw [linS] at h; cases h
theorem lins_sub : ∀ (ss : List Sm) {own o : List Nat}, linSs df dg M ss own = some (some o) → (∀ i ∈ own, i ∈ M) → ∀ i ∈ o, i ∈ M
  | [], own, o, h, hM => by rw [linSs] at h; cases h; exact hM
  | s :: ss, own, o, h, hM => by
    rw [linSs] at h
    obtain ⟨b, e1, h⟩ := Option.bind_eq_some_iff.mp h
    cases b with
    | none => cases h
    | some b => exact lins_sub ss h (lin_sub s e1 hM)
end
theorem mem_bare {i : Nat} : ∀ {es : List E} {e : E}, e ∈ es → i ∈ lk e → i ∈ bare es
  | a :: es, e, h, hi => by
    rw [bare]
    rcases List.mem_cons.mp h with rfl | h
    · exact List.mem_append_left _ hi
    · exact List.mem_append_right _ (mem_bare h hi)
include hG hC in
/-- what is walked: the list itself is not one that the body changes -/
theorem sim_its {its : List E} {k : Ik} {xs : List U} {us : List U} {P1 : Ps} {m tx : List Nat} (hM : ∀ i ∈ own, i ∈ M) (h : EnvR π Y own S ρu ρ) (hp : PotsAt π S P) (hk : okEs df dg M its = true) (hu : evUs GU calU its ρu P = some (.ok us P1)) (hit : itU k us = some xs) :
    ∃ π' S' ds ys g, evEs G cal (renEs rf rg its) ρ S = some (.ok ds S') ∧ Stp π S π' S' noZ ∧ PotsAt π' S' P1 ∧ itD S' k ds = some (ys, g) ∧ Reps π' (Hd Y (dif own (tx ++ (lkOs its ++ (bare its).filter m.contains))) ρ) S' xs ys ∧
      ∀ r, g = some r → r ∉ π' ∧ S'[r]? = some (.lst ys) ∧ ∀ i, i ∈ dif own (tx ++ (lkOs its ++ (bare its).filter m.contains)) → i ∈ m → ρ[i]? ≠ some (some (.ref r)) := by
  obtain ⟨π', S', ds, e, st, p, q⟩ := sim_os hG hC its (N := S.length) hM h hp (Nat.le_refl _) hk hu
  obtain ⟨ys, g, e1, r1, hg⟩ := it_sim q hit
  refine ⟨π', S', ds, ys, g, e, st, p, e1, Reps.sub (Hd.sub (dif_sub fun i hi => List.mem_append_right _ (List.mem_append_left _ hi))) _ _ r1, fun r hr => ?_⟩
  obtain ⟨f1, f2, f3⟩ := hg r hr
  refine ⟨f2, f3, fun i hi hm er => ?_⟩
  have hi' := mem_dif.mp hi
  subst f1
  -- the only expression
  match its, us, hu, q, e with
  | [], us, hu, q, e => rw [evUs] at hu; cases hu; cases q
  | e0 :: e2 :: es, us, hu, q, e =>
    rw [evUs] at hu
    obtain ⟨u0, Pa, _, hu⟩ := bndV_some hu
    rw [evUs] at hu
    obtain ⟨us1, Pb, hu1, hu⟩ := bndV_some hu
    obtain ⟨u2, Pc, _, hu1⟩ := bndV_some hu1
    obtain ⟨us2, Pd, _, hu1⟩ := bndV_some hu1
    cases hu1
    cases hu
    obtain ⟨d, es', eq, _, q2⟩ := q
    cases eq
    obtain ⟨_, _, eq, _⟩ := q2
    cases eq
  | [e0], us, hu, q, e =>
    rw [okEs, Bool.and_eq_true] at hk
    rw [evUs] at hu
    obtain ⟨u0, Pa, hu0, hu⟩ := bndV_some hu
    rw [evUs] at hu
    cases hu
    obtain ⟨π3, S3, d3, e3, st3, p3, q3⟩ := sim_e hG hC e0 (N := S.length) hM h hp (Nat.le_refl _) hk.1 hu0
    rw [renEs, renEs, evEs, e3] at e
    simp only [bnd_ok] at e
    rw [evEs] at e
    simp only [bnd_ok] at e
    cases e
    cases qv : isV e0 with
    | true =>
      obtain ⟨w, j, ej, er2⟩ := q3.2.1 qv
      by_cases hj : j ∈ own
      · have := h.one i j r hi'.1 hj er er2
        subst this
        refine hi'.2 (List.mem_append_right _ (List.mem_append_right _ (List.mem_filter.mpr ⟨?_, List.contains_iff_mem.mpr hm⟩)))
        exact mem_bare List.mem_cons_self (by rw [ej, lk]; exact List.mem_cons_self)
      · rw [ej] at hu0
        rw [evU] at hu0
        split at hu0
        · rename_i uu qq
          cases hu0
          obtain ⟨d, e5, _, e6⟩ := (h.mono st p).at_ j _ qq
          rw [er2] at e5
          cases e5
          have e6 := e6 hj
          cases u0 with
          | lst us => obtain ⟨a, _, ea, na, _⟩ := e6; cases ea; exact na (.inr ⟨i, hi'.1, er⟩)
          | dct ks us => obtain ⟨a, _, ea, na, _⟩ := e6; cases ea; exact na (.inr ⟨i, hi'.1, er⟩)
          | pot k => obtain ⟨a, ea, na⟩ := e6; cases ea; exact f2 (List.mem_of_getElem? na)
          | non => cases e6
          | bl b => cases e6
          | int b => cases e6
          | str b => cases e6
          | tup b => obtain ⟨_, ea, _⟩ := e6; cases ea
          | frz b => obtain ⟨_, ea, _⟩ := e6; cases ea
        · cases hu0
    | false =>
      have e6 := q3.1
      have hio : i ∈ dif own (lk e0) := mem_dif.mpr ⟨hi'.1, fun z => hi'.2 (List.mem_append_right _ (List.mem_append_left _ (by rw [lkOs, qv, cond_false]; exact List.mem_append_left _ z)))⟩
      cases u0 with
      | lst us => obtain ⟨a, _, ea, na, _⟩ := e6; cases ea; exact na (.inr ⟨i, hio, er⟩)
      | dct ks us => obtain ⟨a, _, ea, na, _⟩ := e6; cases ea; exact na (.inr ⟨i, hio, er⟩)
      | pot k' => cases k <;> cases hit
      | non => cases e6
      | bl b => cases e6
      | int b => cases e6
      | str b => cases e6
      | tup b => obtain ⟨_, ea, _⟩ := e6; cases ea
      | frz b => obtain ⟨_, ea, _⟩ := e6; cases ea
end
end Pv

end
section
set_option Elab.async false
set_option linter.all false
set_option maxRecDepth 100000
set_option maxHeartbeats 1000000
/-! The whole: statements, defs, calls. -/
namespace Pv
open PySem L2 Mi
section
variable {df dg : Nat → Bool} {rf rg : Nat → Nat} {GU : Nat → Option U} {G : List D} {calU : CalU} {cal : Cal} {M : List Nat} {Wn : Nat} (hG : GOk dg rg GU G) (hC : CSim df rf calU cal)
include hG hC in
theorem sim_asg1 {Y : Hid} {own : List Nat} {ρu : LocU} {ρ : Mi.Loc} {π : List Nat} {S : Sto} {P : Ps} {ou : OU} {out : Option (List Nat)} {i : Nat} {e : E} (hM : ∀ i ∈ own, i ∈ M) (h : EnvR π Y own S ρu ρ) (hp : PotsAt π S P)
    (hl : linS df dg M (.asg (.one i) e) own = some out) (hu : exU GU Wn calU (.asg (.one i) e) ρu P = some ou) : SimO π S Y (Zm own [] ρ) own ρ out ou (exS G Wn cal (renS rf rg (.asg (.one i) e)) ρ S) := by
  rw [linS] at hl
  split at hl
  · rename_i g
    cases hl
    rw [exU] at hu
    rw [renS, exS]
    refine SimO.ofU hu (fun rv e => sim_e hG hC _ (N := S.length) hM h hp (Nat.le_refl _) g e) fun u P1 π1 S1 d hev st p qq ee => ?_
    cases ee
    have pre : ∀ (o : List Nat), (∀ j ∈ o, j ∈ own) → i ∉ o → ∀ j r, j ∈ o → (ρ.set i (some d))[j]? = some (some (.ref r)) → S.length ≤ r ∨ (j ∈ own ∧ ρ[j]? = some (some (.ref r))) := fun o ho hi j r hj e => by
      rw [List.getElem?_set_ne (fun e2 : i = j => hi (e2 ▸ hj))] at e
      exact .inr ⟨ho j hj, e⟩
    have ni : i ∉ dif own (i :: lk e) := fun z => (mem_dif.mp z).2 List.mem_cons_self
    split
    · rename_i g2
      rw [Bool.and_eq_true] at g2
      have f := qq.2.2 g2.2
      refine SimO.nx p (st.weak fun _ z => z.elim) (h.get st p qq.1 f (fresh_np g2.2 hev)) fun j r hj e => ?_
      rcases List.mem_cons.mp hj with rfl | hj
      · obtain ⟨n, hn, f1, _⟩ := f
        rw [List.getElem?_set] at e
        split at e
        · split at e
          · simp only [Option.some.injEq] at e
            exact .inl (Nat.le_trans hn (f1 r e))
          · cases e
        · rename_i z; exact absurd rfl z
      · exact pre _ dif_own ni j r hj e
    · exact SimO.nx p (st.weak fun _ z => z.elim) (((h.mono st p).leak (i :: lk e)).put ni (Rep.sub (Hd.sub (dif_sub fun j hj => List.mem_cons_of_mem _ hj)) _ _ qq.1)) (pre _ dif_own ni)
  · cases hl
include hG hC in
theorem sim_asgT {Y : Hid} {own : List Nat} {ρu : LocU} {ρ : Mi.Loc} {π : List Nat} {S : Sto} {P : Ps} {ou : OU} {out : Option (List Nat)} {is : List Nat} {e : E} (hM : ∀ i ∈ own, i ∈ M) (h : EnvR π Y own S ρu ρ) (hp : PotsAt π S P)
    (hl : linS df dg M (.asg (.tup is) e) own = some out) (hu : exU GU Wn calU (.asg (.tup is) e) ρu P = some ou) : SimO π S Y (Zm own [] ρ) own ρ out ou (exS G Wn cal (renS rf rg (.asg (.tup is) e)) ρ S) := by
  rw [linS] at hl
  split at hl
  · rename_i g
    cases hl
    rw [exU] at hu
    rw [renS, exS]
    refine SimO.ofU hu (fun rv e => sim_e hG hC _ (N := S.length) hM h hp (Nat.le_refl _) g e) fun u P1 π1 S1 d hev st p qq ee => ?_
    obtain ⟨ρu', e1, e2⟩ := Option.map_eq_some_iff.mp ee
    cases e2
    have ht : ∀ v ∈ (Tg.tup is).ix, v ∉ dif own (is ++ lk e) := fun v hv z => (mem_dif.mp z).2 (List.mem_append_left _ hv)
    obtain ⟨ρ', c1, c2, c3⟩ := ((h.mono st p).leak (is ++ lk e)).setT (t := .tup is) ht (Rep.sub (Hd.sub (dif_sub fun j hj => List.mem_append_right _ hj)) _ _ qq.1) e1
    rw [c1]
    exact SimO.nx p (st.weak fun _ z => z.elim) c2 fun j r hj e => .inr ⟨dif_own j hj, by rw [← setT_slot c1 fun z => ht j z hj]; exact e⟩
  · cases hl
theorem getD_meet {o1 : List Nat} {b1 : Option (List Nat)} : ∃ o2, meet (some o1) b1 = some o2 ∧ (meet (some o1) b1).getD [] = o2 ∧ ∀ i ∈ o2, i ∈ o1 := by
  obtain ⟨o, e, h⟩ := meet_own (o1 := o1) (b1 := b1)
  exact ⟨o, e, by rw [e]; rfl, h⟩
include hG hC in
mutual
theorem sim_s : ∀ (s : Sm) {Y : Hid} {own : List Nat} {ρu : LocU} {ρ : Mi.Loc} {π : List Nat} {S : Sto} {P : Ps} {ou : OU} {out : Option (List Nat)}, (∀ i ∈ own, i ∈ M) → EnvR π Y own S ρu ρ → PotsAt π S P → linS df dg M s own = some out → exU GU Wn calU s ρu P = some ou →
    SimO π S Y (Zm own (mutS s) ρ) own ρ out ou (exS G Wn cal (renS rf rg s) ρ S)
  | .asg (.one i) e, Y, own, ρu, ρ, π, S, P, ou, out, hM, h, hp, hl, hu => sim_asg1 hG hC hM h hp hl hu
  | .asg (.tup is) e, Y, own, ρu, ρ, π, S, P, ou, out, hM, h, hp, hl, hu => sim_asgT hG hC hM h hp hl hu
  | .setIx a k e, Y, own, ρu, ρ, π, S, P, ou, out, hM, h, hp, hl, hu => by
    cases a with
    | var i => exact sim_set hG hC hM h hp hl hu
    | _ => rw [linS] at hl <;> first | (cases hl; done) | (intros; contradiction)
  | .expr e, Y, own, ρu, ρ, π, S, P, ou, out, hM, h, hp, hl, hu => by
    by_cases hk : okE df dg M e = true
    · rw [exU_expr hk] at hu
      rw [linS_expr hk] at hl
      cases hl
      rw [mutS_expr hk, renS, exS]
      refine SimO.ofU hu (fun rv e => sim_e hG hC _ (N := S.length) hM h hp (Nat.le_refl _) hk e) fun u P1 π1 S1 d hev st p qq ee => ?_
      cases ee
      exact SimO.nx p (st.weak fun _ z => z.elim) ((h.mono st p).leak _) fun j r hj e => .inr ⟨dif_own j hj, e⟩
    · cases e with
      | app a b =>
        cases a with
        | var j => exact sim_app hG hC hM h hp hl hu
        | _ => rw [linS, if_neg hk] at hl <;> first | (cases hl; done) | (intros; contradiction)
      | ext a b =>
        cases a with
        | var j => exact sim_ext hG hC hM h hp hl hu
        | _ => rw [linS, if_neg hk] at hl <;> first | (cases hl; done) | (intros; contradiction)
      | _ => rw [linS, if_neg hk] at hl <;> first | (cases hl; done) | (intros; contradiction)
  | .ret e, Y, own, ρu, ρ, π, S, P, ou, out, hM, h, hp, hl, hu => by
    rw [linS] at hl
    split at hl
    · rename_i g
      cases hl
      rw [exU] at hu
      rw [renS, exS]
      refine SimO.ofU hu (fun rv e => sim_e hG hC _ (N := S.length) hM h hp (Nat.le_refl _) g e) fun u P1 π1 S1 d hev st p qq ee => ?_
      cases ee
      exact ⟨π1, S1, d, rfl, st.weak fun _ z => z.elim, p, Rep.sub (fun r z => .inl z) _ _ qq.1⟩
    · cases hl
  | .ite c a b, Y, own, ρu, ρ, π, S, P, ou, out, hM, h, hp, hl, hu => by
    rw [linS] at hl
    split at hl
    · rename_i g
      obtain ⟨oa, e1, hl⟩ := Option.bind_eq_some_iff.mp hl
      obtain ⟨ob, e2, hl⟩ := Option.map_eq_some_iff.mp hl
      subst hl
      rw [exU] at hu
      rw [renS, exS]
      have hd : ∀ i ∈ dif own (lk c), i ∈ M := fun i hi => hM i (dif_own i hi)
      cases q : tstU (evU GU calU c ρu P) with
      | none => rw [q] at hu; cases hu
      | some rv =>
        rw [q] at hu
        have z := tst_sim q (fun rv' e => sim_e hG hC c (N := S.length) hM h hp (Nat.le_refl _) g e) fun _ _ _ _ q => ⟨_, q.1.w⟩
        cases rv with
        | ex cc v P1 =>
          obtain ⟨π1, S1, d, e, st, p, r⟩ := z
          cases hu
          rw [e]
          exact ⟨π1, S1, d, rfl, st.weak fun _ z => z.elim, p, r⟩
        | ok t P1 =>
          obtain ⟨π1, S1, t', e, st, p, r⟩ := z
          subst r
          rw [e]
          have h1 := (h.mono st p).leak (lk c)
          cases t with
          | true => exact (((meet_l (sim_ss a hd h1 p e1 hu)).weak (Zm.sub dif_own fun i hi => by rw [mutS]; exact List.mem_append_left _ hi)).more dif_own).pre st
          | false => exact (((meet_r (sim_ss b hd h1 p e2 hu)).weak (Zm.sub dif_own fun i hi => by rw [mutS]; exact List.mem_append_right _ hi)).more dif_own).pre st
    · cases hl
  | .for_ t k its body, Y, own, ρu, ρ, π, S, P, ou, out, hM, h, hp, hl, hu => by
    rw [linS] at hl
    split at hl
    · rename_i g
      obtain ⟨b1, e1, hl⟩ := Option.bind_eq_some_iff.mp hl
      obtain ⟨b2, e2, hl⟩ := Option.bind_eq_some_iff.mp hl
      split at hl
      · rename_i g2
        obtain ⟨o2, m1, m2, m3⟩ := getD_meet (o1 := dif own (t.ix ++ (lkOs its ++ (bare its).filter (mutSs body).contains))) (b1 := b1)
        rw [m2] at e2 g2
        rw [m1] at hl
        cases hl
        rw [exU] at hu
        rw [renS, exS]
        have ho : ∀ i ∈ o2, i ∈ own := fun i hi => dif_own i (m3 i hi)
        split at hu
        · rename_i us P1 q
          split at hu
          · rename_i xs q2
            obtain ⟨π1, S1, ds, ys, gg, f1, st, p, f2, f3, f4⟩ := sim_its hG hC (m := mutSs body) (tx := t.ix) hM h hp g q q2
            rw [f1]
            dsimp only
            rw [f2]
            dsimp only
            have hE : EnvR π1 Y o2 S1 ρu ρ := (h.mono st p).weak ho
            have z := for_sim (m := mutSs body) (bodyU := fun ρ S => exUs GU Wn calU body ρ S) (body := fun ρ S => exSs G Wn cal (renSs rf rg body) ρ S) (ok := still gg ys) hE
              (fun π3 S3 P3 ρu3 ρ3 ou3 en3 p3 hu3 => ⟨b2, g2, sim_ss body (fun i hi => hM i (ho i hi)) en3 p3 e2 hu3⟩)
              (fun v hv z => (mem_dif.mp (m3 v z)).2 (List.mem_append_left _ hv))
              (fun π3 S3 st3 => by
                cases gg with
                | none => rfl
                | some r =>
                  obtain ⟨n1, n2, n3⟩ := f4 r rfl
                  show (match lstAt S3 r with
                    | some zs => D.beqs ys zs
                    | none => false) = true
                  rw [lstAt_iff (st3.keep n2 n1 fun ⟨i, a, b, c⟩ => n3 i (m3 i a) b c)]
                  exact D.beqs_refl ys)
              xs ys π1 S1 P1 ρu ρ ou Stp.refl p hE (fun i r hi e => .inr ⟨hi, e⟩) (Reps.sub (Hd.sub m3) _ _ f3) hu
            exact ((z.weak (Zm.sub ho fun i hi => by rw [mutS]; exact hi)).more ho).pre st
          · cases hu
        · rename_i cc v P1 q
          cases hu
          obtain ⟨π1, S1, d, e, st, p, r⟩ := sim_os hG hC its (N := S.length) hM h hp (Nat.le_refl _) g q
          rw [e]
          exact ⟨π1, S1, d, rfl, st.weak fun _ z => z.elim, p, r⟩
        · cases hu
      · cases hl
    · cases hl
  | .whl c body, Y, own, ρu, ρ, π, S, P, ou, out, hM, h, hp, hl, hu => by
    rw [linS] at hl
    split at hl
    · rename_i g
      obtain ⟨b1, e1, hl⟩ := Option.bind_eq_some_iff.mp hl
      obtain ⟨b2, e2, hl⟩ := Option.bind_eq_some_iff.mp hl
      split at hl
      · rename_i g2
        obtain ⟨o2, m1, m2, m3⟩ := getD_meet (o1 := dif own (lk c)) (b1 := b1)
        rw [m2] at e2 g2
        rw [m1] at hl
        cases hl
        rw [exU] at hu
        rw [renS, exS]
        have ho : ∀ i ∈ o2, i ∈ own := fun i hi => dif_own i (m3 i hi)
        have hE : EnvR π Y o2 S ρu ρ := h.weak ho
        have z := whl_sim (m := mutSs body) (condU := fun ρ S => tstU (evU GU calU c ρ S)) (cond := fun ρ S => tst (evE G cal (renE rf rg c) ρ S)) (bodyU := fun ρ S => exUs GU Wn calU body ρ S) (body := fun ρ S => exSs G Wn cal (renSs rf rg body) ρ S) hE
          (fun π3 S3 P3 ρu3 ρ3 rv3 en3 p3 hu3 => tst_sim hu3 (fun rv' e => sim_e hG hC c (N := S3.length) (fun i hi => hM i (ho i hi)) en3 p3 (Nat.le_refl _) g e) fun _ _ _ _ q => ⟨_, q.1.w⟩)
          (fun π3 S3 P3 ρu3 ρ3 ou3 en3 p3 hu3 => ⟨b2, g2, sim_ss body (fun i hi => hM i (ho i hi)) en3 p3 e2 hu3⟩)
          Wn π S P ρu ρ ou Stp.refl hp hE (fun i r hi e => .inr ⟨hi, e⟩) hu
        exact (z.weak (Zm.sub ho fun i hi => by rw [mutS]; exact hi)).more ho
      · cases hl
    · cases hl
  | .never, Y, own, ρu, ρ, π, S, P, ou, out, hM, h, hp, hl, hu => by rw [exU] at hu; cases hu
theorem sim_ss : ∀ (ss : List Sm) {Y : Hid} {own : List Nat} {ρu : LocU} {ρ : Mi.Loc} {π : List Nat} {S : Sto} {P : Ps} {ou : OU} {out : Option (List Nat)}, (∀ i ∈ own, i ∈ M) → EnvR π Y own S ρu ρ → PotsAt π S P → linSs df dg M ss own = some out → exUs GU Wn calU ss ρu P = some ou →
    SimO π S Y (Zm own (mutSs ss) ρ) own ρ out ou (exSs G Wn cal (renSs rf rg ss) ρ S)
  | [], Y, own, ρu, ρ, π, S, P, ou, out, hM, h, hp, hl, hu => by
    rw [exUs] at hu
    rw [linSs] at hl
    cases hu
    cases hl
    rw [renSs, exSs]
    exact SimO.nx hp Stp.refl h fun i r hi e => .inr ⟨hi, e⟩
  | s :: ss, Y, own, ρu, ρ, π, S, P, ou, out, hM, h, hp, hl, hu => by
    rw [exUs] at hu
    rw [linSs] at hl
    obtain ⟨o1, e1, hl⟩ := Option.bind_eq_some_iff.mp hl
    rw [renSs, exSs]
    cases q : exU GU Wn calU s ρu P with
    | none => rw [q] at hu; cases hu
    | some ou1 =>
      rw [q] at hu
      have z := (sim_s s hM h hp e1 q).weak (Zm.sub (fun _ h => h) fun i hi => (show i ∈ mutSs (s :: ss) by rw [mutSs]; exact List.mem_append_left _ hi))
      cases ou1 with
      | rt u P1 =>
        obtain ⟨π1, S1, d, e, st, p, r⟩ := z
        cases hu
        rw [e]
        exact ⟨π1, S1, d, rfl, st, p, r⟩
      | ex c v P1 =>
        obtain ⟨π1, S1, d, e, st, p, r⟩ := z
        cases hu
        rw [e]
        exact ⟨π1, S1, d, rfl, st, p, r⟩
      | nx ρu1 P1 =>
        obtain ⟨π1, S1, ρ1, o, e0, e, st, p, en, k⟩ := z
        subst e0
        rw [e]
        dsimp only at hl hu ⊢
        have z2 := sim_ss ss (lin_sub s e1 hM) en p hl hu
        have zt : ∀ r, Zm o (mutSs ss) ρ1 r → Zm own (mutSs (s :: ss)) ρ r ∨ r ∈ π ∨ S.length ≤ r := fun r ⟨i, a, b, c⟩ => by
          rcases k i r a c with z | z
          · exact .inr (.inr z)
          · exact .inl ⟨i, z.1, by rw [mutSs]; exact List.mem_append_right _ b, z.2⟩
        cases ou with
        | rt u P2 =>
          obtain ⟨π2, S2, d, e, st2, p2, r⟩ := z2
          exact ⟨π2, S2, d, e, st.trans st2 zt, p2, r⟩
        | ex c v P2 =>
          obtain ⟨π2, S2, d, e, st2, p2, r⟩ := z2
          exact ⟨π2, S2, d, e, st.trans st2 zt, p2, r⟩
        | nx ρu2 P2 =>
          obtain ⟨π2, S2, ρ2, o', e0, e, st2, p2, en2, k2⟩ := z2
          refine ⟨π2, S2, ρ2, o', e0, e, st.trans st2 zt, p2, en2, fun i r hi e => ?_⟩
          rcases k2 i r hi e with z | z
          · exact .inl (Nat.le_trans st.len z)
          · exact k i r z.1 z.2
end
end
/-! ### defs and calls -/
structure TxOk (X : Tx) (df dg : Nat → Bool) (rf rg : Nat → Nat) (T : List Fd) (G : List D) : Prop where
  hG : GOk dg rg X.G G
  hF : ∀ (f : Nat) (F : Fd), df (f + 2) = true → X.T (f + 2) = some F → ∃ F' out, T[rf (f + 2)]? = some F' ∧ F'.np = F.np ∧ F'.ns = F.ns ∧ F'.body = renSs rf rg F.body ∧ linSs df dg (mutSs F.body) F.body [] = some out
  hT : ∀ (n : Nat) (π : List Nat) (S : Sto) (P : Ps) (k : Nat) (u : Int) (s : Pt) (q : Int × Pt) (r : Nat), PotsAt π S P → P[k]? = some s → π[k]? = some r → X.tk s u = some q → ∃ S', calF G X.W T (n + 1) (rf 0) [.ref r, .int u] S = some (.ok (.int q.1) S') ∧ Stp π S π S' noZ ∧ PotsAt π S' (P.set k q.2)
  hP : ∀ (n : Nat) (S : Sto) (is : List Int) (p : Int) (a b c : Int), X.pot is p = some (a, b, c) → ∃ S' r, calF G X.W T (n + 1) (rf 1) [.frz (is.map .int), .int p] S = some (.ok (.ref r) S') ∧ S.length ≤ r ∧ (∀ j, j < S.length → S'[j]? = S[j]?) ∧ S'[r]? = some (.lst [.int a, .int b, .int c])
section
variable {X : Tx} {df dg : Nat → Bool} {rf rg : Nat → Nat} {T : List Fd} {G : List D}
theorem EnvR.start {π : List Nat} {Y : Hid} {S : Sto} {us : List U} {ds : List D} (m : Nat) (hb : Bd π Y S) (r : Reps π Y S us ds) : EnvR π Y [] S (us.map some ++ List.replicate m none) (ds.map some ++ List.replicate m none) := by
  have hd : ∀ ρ : Mi.Loc, Hd Y [] ρ = Y := fun ρ => funext fun r => propext ⟨fun z => z.elim id fun ⟨_, h, _⟩ => (by cases h), .inl⟩
  refine ⟨by simp [r.length], fun i u e => ?_, fun i _ _ h => (by cases h), fun i _ h => (by cases h), hb⟩
  rw [hd]
  have hi : i < us.length := by
    rcases Nat.lt_or_ge i us.length with z | z
    · exact z
    · rw [List.getElem?_append_right (by simpa using z)] at e
      rw [List.getElem?_replicate] at e
      split at e <;> cases e
  rw [List.getElem?_append_left (by simpa using hi), List.getElem?_map] at e
  obtain ⟨v, e1, e2⟩ := Option.map_eq_some_iff.mp e
  cases e2
  obtain ⟨d, e3, q⟩ := r.get e1
  refine ⟨d, ?_, q.w, fun _ => q⟩
  rw [List.getElem?_append_left (by simpa [r.length] using hi), List.getElem?_map, e3]
  rfl
theorem calls_sim (ok : TxOk X df dg rf rg T G) : ∀ n, CSim df rf (calU X n) (calF G X.W T n)
  | 0 => fun f us P rv _ h => (by cases h)
  | n + 1 => fun f us P rv hf h π Y S ds hb hp r => by
    match f, hf, h with
    | 0, hf, h =>
      have h : takeU X P us = some rv := h
      unfold takeU at h
      split at h
      · rename_i k u
        obtain ⟨s, e1, h⟩ := Option.bind_eq_some_iff.mp h
        obtain ⟨q, e2, h⟩ := Option.map_eq_some_iff.mp h
        cases h
        obtain ⟨d, es, rfl, ⟨rr, rfl, e3⟩, r2⟩ := r
        obtain ⟨d2, es2, rfl, h4, r3⟩ := r2
        cases h4
        have r3 : es2 = [] := r3
        subst r3
        obtain ⟨S', e4, st, p⟩ := ok.hT n π S P _ _ s q rr hp e1 e3 e2
        exact ⟨π, S', _, e4, st, p, rfl⟩
      · cases h
    | 1, hf, h =>
      have h : potU X P us = some rv := h
      unfold potU at h
      split at h
      · rename_i ns p
        obtain ⟨is, e1, h⟩ := Option.bind_eq_some_iff.mp h
        obtain ⟨⟨a, b, c⟩, e2, h⟩ := Option.map_eq_some_iff.mp h
        cases h
        obtain ⟨d, es, rfl, ⟨fs, rfl, rfs⟩, r2⟩ := r
        obtain ⟨d2, es2, rfl, h4, r3⟩ := r2
        cases h4
        have r3 : es2 = [] := r3
        subst r3
        obtain ⟨_, e3⟩ := rfs.ints_of e1
        subst e3
        obtain ⟨S', rr, e4, g1, g2, g3⟩ := ok.hP n S is _ a b c e2
        have hlt := lt_of_at g3
        have hn : rr ∉ π := fun z => by have := hp.lt rr z; omega
        refine ⟨π ++ [rr], S', .ref rr, e4, ⟨by omega, fun j hj _ _ => g2 j hj, fun k r e => (List.getElem?_append_left (List.getElem?_eq_some_iff.mp e).1).trans e, fun r e => (List.mem_append.mp e).imp id fun z => by rw [List.mem_singleton.mp z]; exact g1⟩, ⟨by simp [hp.len], ?_, fun k r a' b' c' e f => ?_⟩, ?_⟩
        · rw [List.nodup_append]
          exact ⟨hp.nod, by simp, fun x hx y hy e => hn (by rw [List.mem_singleton.mp hy] at e; exact e ▸ hx)⟩
        · rcases Nat.lt_or_ge k π.length with z | z
          · rw [List.getElem?_append_left z] at e
            rw [List.getElem?_append_left (by rw [← hp.len]; exact z)] at f
            have := hp.at_ k r a' b' c' e f
            rw [g2 r (lt_of_at this)]
            exact this
          · rw [List.getElem?_append_right z] at e
            rw [List.getElem?_append_right (by rw [← hp.len]; exact z)] at f
            rw [← hp.len] at f
            have hk : k - π.length = 0 := by
              have := (List.getElem?_eq_some_iff.mp e).1
              simp at this
              omega
            rw [hk] at e f
            cases e
            cases f
            exact g3
        · exact ⟨rr, rfl, by rw [← hp.len]; simp⟩
      · cases h
    | f + 2, hf, h =>
      have h : (match X.T (f + 2) with
        | some F => if us.length = F.np then match exUs X.G X.W (calU X n) F.body (us.map some ++ List.replicate (F.ns - us.length) none) P with
            | some (.nx _ S1) => some (Rv.ok U.non S1)
            | some (.rt d S1) => some (.ok d S1)
            | some (.ex c v S1) => some (.ex c v S1)
            | none => none
          else none
        | none => none) = some rv := h
      split at h
      · rename_i F hT
        split at h
        · rename_i hl
          obtain ⟨F', out, t1, t2, t3, t4, t5⟩ := ok.hF f F hf hT
          rw [calF, t1]
          dsimp only
          rw [if_pos (by rw [r.length, t2]; exact hl), t3, t4, r.length]
          split at h
          · rename_i q
            cases h
            obtain ⟨π1, S1, ρ1, o, _, e, st, p, _⟩ := sim_ss ok.hG (calls_sim ok n) (M := mutSs F.body) F.body (fun i hi => (by cases hi)) (EnvR.start _ hb r) hp t5 q
            rw [e]
            exact ⟨π1, S1, .non, rfl, st.weak fun r ⟨_, h, _⟩ => (by cases h), p, rfl⟩
          · rename_i q
            cases h
            obtain ⟨π1, S1, d, e, st, p, q⟩ := sim_ss ok.hG (calls_sim ok n) (M := mutSs F.body) F.body (fun i hi => (by cases hi)) (EnvR.start _ hb r) hp t5 q
            rw [e]
            exact ⟨π1, S1, d, rfl, st.weak fun r ⟨_, h, _⟩ => (by cases h), p, q⟩
          · rename_i q
            cases h
            obtain ⟨π1, S1, d, e, st, p, q⟩ := sim_ss ok.hG (calls_sim ok n) (M := mutSs F.body) F.body (fun i hi => (by cases hi)) (EnvR.start _ hb r) hp t5 q
            rw [e]
            exact ⟨π1, S1, d, rfl, st.weak fun r ⟨_, h, _⟩ => (by cases h), p, q⟩
          · cases h
        · cases h
      · cases h
end
end Pv

end
section
set_option Elab.async false
set_option linter.all false
set_option maxRecDepth 100000
set_option maxHeartbeats 1000000
/-! The pots of the laws: two ways to take, three ways to make. -/
namespace Pv
open PySem L2 Mi
/-- a pot that may be asked -/
structure PtOk (N : Int) (s : Pt) : Prop where
  a0 : 0 ≤ s.1
  a1 : s.1 < 10 ^ 300
  b0 : 0 ≤ s.2.1
  b1 : s.2.1 < 2 ^ 62
  c0 : 0 ≤ s.2.2
  c1 : s.2.2 ≤ N
instance (N : Int) (s : Pt) : Decidable (PtOk N s) := decidable_of_iff (0 ≤ s.1 ∧ s.1 < 10 ^ 300 ∧ 0 ≤ s.2.1 ∧ s.2.1 < 2 ^ 62 ∧ 0 ≤ s.2.2 ∧ s.2.2 ≤ N) ⟨fun h => ⟨h.1, h.2.1, h.2.2.1, h.2.2.2.1, h.2.2.2.2.1, h.2.2.2.2.2⟩, fun h => ⟨h.a0, h.a1, h.b0, h.b1, h.c0, h.c1⟩⟩
def pick5 (p0 p1 p2 p3 p4 k : Int) : Int := if k = 0 then p0 else if k = 1 then p1 else if k = 2 then p2 else if k = 3 then p3 else p4
def pick4 (p0 p1 p2 p3 k : Int) : Int := if k = 0 then p0 else if k = 1 then p1 else if k = 2 then p2 else p3
def tkB (p0 p1 p2 p3 p4 A B D E M F : Int) (s : Pt) (u : Int) : Option (Int × Pt) :=
  if PtOk (2 ^ 38) s ∧ 1 ≤ u ∧ u < 2 ^ 60 then
    if 0 < s.1 then some (s.1 % u, (s.1 / u, s.2.1, s.2.2))
    else
      let c := s.2.2 + 1
      let bl := (s.2.1 + A * c * c + B) ^ 3 % pick5 p0 p1 p2 p3 p4 (c % 5)
      some (bl * (bl % D + E * c) % M / F % u, (s.1, s.2.1, c))
  else none
def tkA (p0 p1 p2 p3 A B D E F : Int) (s : Pt) (u : Int) : Option (Int × Pt) :=
  if PtOk (2 ^ 38) s ∧ 1 ≤ u ∧ u < 2 ^ 60 then
    if 0 < s.1 then some (s.1 % u, (s.1 / u, s.2.1, s.2.2))
    else
      let c := s.2.2 + 1
      let bl := (s.2.1 + A * c * c + B) ^ 3 % pick4 p0 p1 p2 p3 (c % 4)
      some (bl * (bl % D + E * c) / F % u, (s.1, s.2.1, c))
  else none
/-- what a law's take does: enough for the laws -/
structure TkOk (tk : Pt → Int → Option (Int × Pt)) : Prop where
  ok : ∀ (N : Int) (s : Pt) (u : Int), PtOk N s → N ≤ 2 ^ 38 → 1 ≤ u → u < 2 ^ 60 → ∃ d s', tk s u = some (d, s') ∧ 0 ≤ d ∧ d < u ∧ PtOk (N + 1) s'
theorem left_ok {N u : Int} {s : Pt} (h : PtOk N s) (h1 : 1 ≤ u) (h2 : 0 < s.1) : PtOk (N + 1) (s.1 / u, s.2.1, s.2.2) := by
  have := Int.ediv_le_self u h.a0
  have := h.a1
  have := h.c1
  exact ⟨Int.ediv_nonneg h.a0 (by omega), by show s.1 / u < 10 ^ 300; omega, h.b0, h.b1, h.c0, by show s.2.2 ≤ N + 1; omega⟩
theorem tkB_ok {p0 p1 p2 p3 p4 A B D E M F : Int} : TkOk (tkB p0 p1 p2 p3 p4 A B D E M F) := ⟨fun N s u h hN h1 h2 => by
  unfold tkB
  have h38 : PtOk (2 ^ 38) s := ⟨h.a0, h.a1, h.b0, h.b1, h.c0, Int.le_trans h.c1 hN⟩
  rw [if_pos ⟨h38, h1, h2⟩]
  split
  · rename_i ha
    exact ⟨_, _, rfl, Int.emod_nonneg _ (by omega), Int.emod_lt_of_pos _ (by omega), left_ok h h1 ha⟩
  · refine ⟨_, _, rfl, Int.emod_nonneg _ (by omega), Int.emod_lt_of_pos _ (by omega), h.a0, h.a1, h.b0, h.b1, ?_, ?_⟩
    · have := h.c0; show 0 ≤ s.2.2 + 1; omega
    · have := h.c1; show s.2.2 + 1 ≤ N + 1; omega⟩
theorem tkA_ok {p0 p1 p2 p3 A B D E F : Int} : TkOk (tkA p0 p1 p2 p3 A B D E F) := ⟨fun N s u h hN h1 h2 => by
  unfold tkA
  have h38 : PtOk (2 ^ 38) s := ⟨h.a0, h.a1, h.b0, h.b1, h.c0, Int.le_trans h.c1 hN⟩
  rw [if_pos ⟨h38, h1, h2⟩]
  split
  · rename_i ha
    exact ⟨_, _, rfl, Int.emod_nonneg _ (by omega), Int.emod_lt_of_pos _ (by omega), left_ok h h1 ha⟩
  · refine ⟨_, _, rfl, Int.emod_nonneg _ (by omega), Int.emod_lt_of_pos _ (by omega), h.a0, h.a1, h.b0, h.b1, ?_, ?_⟩
    · have := h.c0; show 0 ≤ s.2.2 + 1; omega
    · have := h.c1; show s.2.2 + 1 ≤ N + 1; omega⟩
def takeB (p0 p1 p2 p3 p4 A B D E M F : Int) : List Sm := [.ite (.cmp .gt (.ix (.var 0) (.lit (.int 0))) (.lit (.int 0))) [.asg (.one 2) (.op .mod (.bi .int [.ix (.var 0) (.lit (.int 0))]) (.var 1)), .setIx (.var 0) (.lit (.int 0)) (.op .fdiv (.ix (.var 0) (.lit (.int 0))) (.var 1)), .ret (.var 2)] [], .setIx (.var 0) (.lit (.int 2)) (.op .add (.ix (.var 0) (.lit (.int 2))) (.lit (.int 1))), .asg (.one 3) (.ix (.lst [.lit (.int p0), .lit (.int p1), .lit (.int p2), .lit (.int p3), .lit (.int p4)]) (.op .mod (.bi .int [.ix (.var 0) (.lit (.int 2))]) (.lit (.int 5)))), .asg (.one 4) (.op .mod (.bi .int [.op .pow (.bi .int [.op .add (.op .add (.ix (.var 0) (.lit (.int 1))) (.op .mul (.op .mul (.lit (.int A)) (.ix (.var 0) (.lit (.int 2)))) (.ix (.var 0) (.lit (.int 2))))) (.lit (.int B))]) (.lit (.int 3))]) (.var 3)), .asg (.one 4) (.op .mod (.bi .int [.op .mul (.var 4) (.op .add (.op .mod (.bi .int [.var 4]) (.lit (.int D))) (.op .mul (.lit (.int E)) (.ix (.var 0) (.lit (.int 2)))))]) (.lit (.int M))), .ret (.op .mod (.bi .int [.op .fdiv (.var 4) (.lit (.int F))]) (.var 1))]
def takeA (p0 p1 p2 p3 A B D E F : Int) : List Sm := [.ite (.cmp .gt (.ix (.var 0) (.lit (.int 0))) (.lit (.int 0))) [.asg (.one 2) (.op .mod (.bi .int [.ix (.var 0) (.lit (.int 0))]) (.var 1)), .setIx (.var 0) (.lit (.int 0)) (.op .fdiv (.ix (.var 0) (.lit (.int 0))) (.var 1)), .ret (.var 2)] [], .setIx (.var 0) (.lit (.int 2)) (.op .add (.ix (.var 0) (.lit (.int 2))) (.lit (.int 1))), .asg (.one 3) (.ix (.lst [.lit (.int p0), .lit (.int p1), .lit (.int p2), .lit (.int p3)]) (.op .mod (.bi .int [.ix (.var 0) (.lit (.int 2))]) (.lit (.int 4)))), .asg (.one 4) (.op .mod (.bi .int [.op .pow (.bi .int [.op .add (.op .add (.ix (.var 0) (.lit (.int 1))) (.op .mul (.op .mul (.lit (.int A)) (.ix (.var 0) (.lit (.int 2)))) (.ix (.var 0) (.lit (.int 2))))) (.lit (.int B))]) (.lit (.int 3))]) (.var 3)), .ret (.op .mod (.bi .int [.op .fdiv (.op .mul (.var 4) (.op .add (.op .mod (.bi .int [.var 4]) (.lit (.int D))) (.op .mul (.lit (.int E)) (.ix (.var 0) (.lit (.int 2)))))) (.lit (.int F))]) (.var 1))]
/-- sizes of a take's numbers -/
structure CB (p0 p1 p2 p3 p4 A B D E M F : Int) : Prop where
  q0 : 0 < p0 ∧ p0 < 2 ^ 50
  q1 : 0 < p1 ∧ p1 < 2 ^ 50
  q2 : 0 < p2 ∧ p2 < 2 ^ 50
  q3 : 0 < p3 ∧ p3 < 2 ^ 50
  q4 : 0 < p4 ∧ p4 < 2 ^ 50
  a : 0 < A ∧ A < 2 ^ 20
  b : 0 ≤ B ∧ B < 2 ^ 20
  d : 0 < D ∧ D < 2 ^ 20
  e : 0 < E ∧ E < 2 ^ 20
  m : 0 < M ∧ M < 2 ^ 62
  f : 0 < F ∧ F < 2 ^ 20
section
variable {G : List D} {W : Nat} {T : List Fd} {f n : Nat} {S : Sto} {r : Nat} {s : Pt} {u : Int} {q : Int × Pt}
theorem lk3' {a b c : Int} (hr : r < S.length) : lstAt (S.set r (.lst [.int a, .int b, .int c])) r = some [.int a, .int b, .int c] := lstAt_set hr
theorem sq_small {A c : Int} (ha : 0 < A ∧ A < 2 ^ 20) (h0 : 0 ≤ c) (h1 : c ≤ 2 ^ 39) : 0 ≤ A * c * c ∧ A * c * c < 2 ^ 100 ∧ 0 ≤ A * c ∧ A * c < 2 ^ 60 := by
  have e1 : 0 ≤ A * c := Int.mul_nonneg (by omega) h0
  have e2 : A * c ≤ 2 ^ 20 * 2 ^ 39 := Int.mul_le_mul (by omega) h1 h0 (by decide)
  have e3 : 0 ≤ A * c * c := Int.mul_nonneg e1 h0
  have e4 : A * c * c ≤ (2 ^ 20 * 2 ^ 39) * 2 ^ 39 := Int.mul_le_mul e2 h1 h0 (by decide)
  have e5 : ((2 : Int) ^ 20 * 2 ^ 39) * 2 ^ 39 < 2 ^ 100 := by decide
  have e6 : ((2 : Int) ^ 20 * 2 ^ 39) < 2 ^ 60 := by decide
  exact ⟨e3, by omega, e1, by omega⟩
theorem takeB_run {p0 p1 p2 p3 p4 A B D E M F : Int} {ns : Nat} {nm : Str} (hns : ns = 5) (C : CB p0 p1 p2 p3 p4 A B D E M F) (hT : T[f]? = some ⟨nm, 2, ns, takeB p0 p1 p2 p3 p4 A B D E M F⟩) (hS : S[r]? = some (.lst [.int s.1, .int s.2.1, .int s.2.2])) (hq : tkB p0 p1 p2 p3 p4 A B D E M F s u = some q) :
    Wp (calF G W T (n + 1) f [.ref r, .int u] S) fun d S' => d = .int q.1 ∧ Fr [r] S S' ∧ S'[r]? = some (.lst [.int q.2.1, .int q.2.2.1, .int q.2.2.2]) := by
  subst hns
  obtain ⟨a, b, c⟩ := s
  unfold tkB at hq
  split at hq
  · rename_i hg
    obtain ⟨⟨a0, a1, b0, b1, c0, c1⟩, u1, u2⟩ := hg
    simp only at a0 a1 b0 b1 c0 c1 hq hS
    refine Wp_call hT rfl ?_
    show Wo (exSs G W (calF G W T n) (takeB p0 p1 p2 p3 p4 A B D E M F) _ S) _ _
    have hr : r < S.length := lt_of_at hS
    have hb : (2 : Int) ^ 60 < 2 ^ 4096 := by decide
    simp [takeB, lstAt_of hS, atI, ixN, hr]
    split
    · rename_i ha
      rw [if_pos ha] at hq
      cases hq
      exact ⟨by omega, fdOk_of (by omega) (by omega), rfl, Fr.put List.mem_cons_self _ _, rfl, rfl, rfl⟩
    · rename_i ha
      rw [if_neg ha] at hq
      have h5 : (c + 1) % 5 = 0 ∨ (c + 1) % 5 = 1 ∨ (c + 1) % 5 = 2 ∨ (c + 1) % 5 = 3 ∨ (c + 1) % 5 = 4 := by omega
      have hz : 5 ≤ sizeLine := by decide
      obtain ⟨cc0, cc, cd0, cd⟩ := sq_small (c := c + 1) C.a (by omega) (by omega)
      have e100 : (2 : Int) ^ 102 < 2 ^ 4096 := by decide
      have hB := C.b
      have p3' : powOk (b + A * (c + 1) * (c + 1) + B) 3 := ⟨by decide, by decide, by omega, by omega⟩
      have hA := C.a
      have hE := C.e
      have hD := C.d
      have hM := C.m
      have hF := C.f
      have m1 : mulOk A (c + 1) := .inl ⟨by omega, by omega⟩
      have m2 : mulOk (A * (c + 1)) (c + 1) := .inr (.inl ⟨by omega, by omega⟩)
      have m3 : mulOk E (c + 1) := .inl ⟨by omega, by omega⟩
      obtain ⟨x0, x1⟩ := C.q0
      obtain ⟨y0, y1⟩ := C.q1
      obtain ⟨z0, z1⟩ := C.q2
      obtain ⟨v0, v1⟩ := C.q3
      obtain ⟨w0, w1⟩ := C.q4
      have mm : ∀ (X p : Int), 0 < p → p < 2 ^ 50 → ∀ Y, mulOk (X % p) Y := fun X p h1 h2 Y => .inl ⟨by have := Int.emod_nonneg X (Int.ne_of_gt h1); omega, by have := Int.emod_lt_of_pos X h1; omega⟩
      refine ⟨hz, ?_⟩
      rcases h5 with h5 | h5 | h5 | h5 | h5
      all_goals
        simp only [h5, pick5] at hq
        simp [h5, hr, m1, m2, m3, p3', x0, y0, z0, v0, w0, hD.1, hM.1]
        refine ⟨mm _ _ (by assumption) (by assumption) _, fdOk_of hF.1 (by omega), by omega, ?_⟩
        have hq := Option.some.inj hq
        subst hq
        refine ⟨rfl, (Fr.put List.mem_cons_self _ _).trans (Fr.grow _ _ _), ?_⟩
        rw [List.getElem?_append_left (by simpa using hr)]
        exact List.getElem?_set_self hr
  · cases hq
theorem takeA_run {p0 p1 p2 p3 A B D E F : Int} {ns : Nat} {nm : Str} (hns : ns = 5) (C : CB p0 p1 p2 p3 p3 A B D E 1 F) (hT : T[f]? = some ⟨nm, 2, ns, takeA p0 p1 p2 p3 A B D E F⟩) (hS : S[r]? = some (.lst [.int s.1, .int s.2.1, .int s.2.2])) (hq : tkA p0 p1 p2 p3 A B D E F s u = some q) :
    Wp (calF G W T (n + 1) f [.ref r, .int u] S) fun d S' => d = .int q.1 ∧ Fr [r] S S' ∧ S'[r]? = some (.lst [.int q.2.1, .int q.2.2.1, .int q.2.2.2]) := by
  subst hns
  obtain ⟨a, b, c⟩ := s
  unfold tkA at hq
  split at hq
  · rename_i hg
    obtain ⟨⟨a0, a1, b0, b1, c0, c1⟩, u1, u2⟩ := hg
    simp only at a0 a1 b0 b1 c0 c1 hq hS
    refine Wp_call hT rfl ?_
    show Wo (exSs G W (calF G W T n) (takeA p0 p1 p2 p3 A B D E F) _ S) _ _
    have hr : r < S.length := lt_of_at hS
    have hb : (2 : Int) ^ 60 < 2 ^ 4096 := by decide
    simp [takeA, lstAt_of hS, atI, ixN, hr]
    split
    · rename_i ha
      rw [if_pos ha] at hq
      cases hq
      exact ⟨by omega, fdOk_of (by omega) (by omega), rfl, Fr.put List.mem_cons_self _ _, rfl, rfl, rfl⟩
    · rename_i ha
      rw [if_neg ha] at hq
      have h5 : (c + 1) % 4 = 0 ∨ (c + 1) % 4 = 1 ∨ (c + 1) % 4 = 2 ∨ (c + 1) % 4 = 3 := by omega
      have hz : 4 ≤ sizeLine := by decide
      obtain ⟨cc0, cc, cd0, cd⟩ := sq_small (c := c + 1) C.a (by omega) (by omega)
      have e100 : (2 : Int) ^ 102 < 2 ^ 4096 := by decide
      have hB := C.b
      have p3' : powOk (b + A * (c + 1) * (c + 1) + B) 3 := ⟨by decide, by decide, by omega, by omega⟩
      have hA := C.a
      have hE := C.e
      have hD := C.d
      have hF := C.f
      have m1 : mulOk A (c + 1) := .inl ⟨by omega, by omega⟩
      have m2 : mulOk (A * (c + 1)) (c + 1) := .inr (.inl ⟨by omega, by omega⟩)
      have m3 : mulOk E (c + 1) := .inl ⟨by omega, by omega⟩
      obtain ⟨x0, x1⟩ := C.q0
      obtain ⟨y0, y1⟩ := C.q1
      obtain ⟨z0, z1⟩ := C.q2
      obtain ⟨v0, v1⟩ := C.q3
      have mm : ∀ (X p : Int), 0 < p → p < 2 ^ 50 → ∀ Y, mulOk (X % p) Y := fun X p h1 h2 Y => .inl ⟨by have := Int.emod_nonneg X (Int.ne_of_gt h1); omega, by have := Int.emod_lt_of_pos X h1; omega⟩
      refine ⟨hz, ?_⟩
      rcases h5 with h5 | h5 | h5 | h5
      all_goals
        simp only [h5, pick4] at hq
        simp [h5, hr, m1, m2, m3, p3', x0, y0, z0, v0, hD.1]
        refine ⟨mm _ _ (by assumption) (by assumption) _, fdOk_of hF.1 (by omega), by omega, ?_⟩
        have hq := Option.some.inj hq
        subst hq
        refine ⟨rfl, (Fr.put List.mem_cons_self _ _).trans (Fr.grow _ _ _), ?_⟩
        rw [List.getElem?_append_left (by simpa using hr)]
        exact List.getElem?_set_self hr
  · cases hq
/-- what TxOk asks of a take -/
theorem take_step {π : List Nat} {P : Ps} {k : Nat} (p : PotsAt π S P) (h1 : P[k]? = some s) (h2 : π[k]? = some r)
    (hw : Wp (calF G W T (n + 1) f [.ref r, .int u] S) fun d S' => d = .int q.1 ∧ Fr [r] S S' ∧ S'[r]? = some (.lst [.int q.2.1, .int q.2.2.1, .int q.2.2.2])) :
    ∃ S', calF G W T (n + 1) f [.ref r, .int u] S = some (.ok (.int q.1) S') ∧ Stp π S π S' noZ ∧ PotsAt π S' (P.set k q.2) := by
  obtain ⟨d, S', e, rfl, fr, at_⟩ := hw
  refine ⟨S', e, ⟨fr.1, fun j hj hp _ => fr.2 j hj fun z => hp (by rw [List.mem_singleton.mp z]; exact List.mem_of_getElem? h2), fun _ _ h => h, fun _ h => .inl h⟩, by rw [List.length_set]; exact p.len, p.nod, fun j r' a b c e1 e2 => ?_⟩
  by_cases hj : k = j
  · subst hj
    rw [h2] at e1
    cases e1
    have hk : k < P.length := (List.getElem?_eq_some_iff.mp h1).1
    rw [List.getElem?_set_self hk] at e2
    have e2 := Option.some.inj e2
    rw [at_, e2]
  · rw [List.getElem?_set_ne hj] at e2
    have z := p.at_ j r' a b c e1 e2
    have hr' : r' ≠ r := fun e => by
      subst e
      obtain ⟨hk, ek⟩ := List.getElem?_eq_some_iff.mp h2
      obtain ⟨hl, el⟩ := List.getElem?_eq_some_iff.mp e1
      have pw := List.pairwise_iff_getElem.mp p.nod
      rcases Nat.lt_trichotomy k j with z | z | z
      · exact pw k j hk hl z (ek.trans el.symm)
      · exact hj z
      · exact pw j k hl hk z (el.trans ek.symm)
    rw [fr.2 r' (lt_of_at z) fun z => hr' (List.mem_singleton.mp z)]
    exact z
/-! ### making -/
def potT (K1 K2 K3 K4 : Int) : List Sm := [.asg (.one 3) (.op .mul (.op .mod (.bi .int [.bi .abs [.var 2]]) (.op .pow (.op .pow (.lit (.int 10)) (.lit (.int 60))) (.lit (.int 5)))) (.bi .int [.cmp .ge (.bi .abs [.var 2]) (.op .pow (.lit (.int 10)) (.lit (.int 18)))])), .asg (.one 4) (.op .mod (.bi .int [.var 2]) (.lit (.int 2305843009213693951))), .ret (.lst [.var 3, .op .mod (.bi .int [.op .add (.op .add (.op .mul (.var 4) (.lit (.int K1))) (.op .mul (.op .mul (.lit (.int K2)) (.var 1)) (.var 1))) (.lit (.int K3))]) (.lit (.int 2305843009213693921)), .lit (.int K4)])]
/-- one that looks at the first cell -/
def pot1 (K1 K2 K3 M1 M2 M3 : Int) : List Sm := .asg (.one 2) (.ite (.cmp .lt (.var 1) (.bi .len [.var 0])) (.ix (.var 0) (.var 1)) (.op .add (.op .add (.op .mod (.bi .int [.bi .sum [.slc (.var 0) none (some (.lit (.int 1)))]]) (.lit (.int M1))) (.op .mul (.lit (.int M2)) (.var 1))) (.lit (.int M3)))) :: potT K1 K2 K3 0
def pot2 (K1 K2 K3 M1 M2 M3 : Int) : List Sm := .asg (.one 2) (.ite (.cmp .lt (.var 1) (.bi .len [.var 0])) (.ix (.var 0) (.var 1)) (.op .add (.op .add (.op .mod (.bi .sum [.slc (.var 0) none (some (.lit (.int 1)))]) (.lit (.int M1))) (.op .mul (.lit (.int M2)) (.var 1))) (.lit (.int M3)))) :: potT K1 K2 K3 0
/-- one that does not -/
def pot3 (K1 K2 K3 M2 M3 : Int) : List Sm := .asg (.one 2) (.ite (.cmp .lt (.var 1) (.bi .len [.var 0])) (.ix (.var 0) (.var 1)) (.op .add (.op .mul (.lit (.int M2)) (.var 1)) (.lit (.int M3)))) :: potT K1 K2 K3 0
def absI (c : Int) : Int := if c < 0 then -c else c
def potF (K1 K2 K3 cell p : Int) : Pt := (absI cell % 10 ^ 300 * (if 10 ^ 18 ≤ absI cell then 1 else 0), (cell % 2305843009213693951 * K1 + K2 * p * p + K3) % 2305843009213693921, 0)
theorem potF_ok (K1 K2 K3 cell p : Int) : PtOk 0 (potF K1 K2 K3 cell p) := by
  unfold potF
  have m0 : (0 : Int) < 10 ^ 300 := by decide
  have x0 := Int.emod_nonneg (absI cell) (Int.ne_of_gt m0)
  have x1 := Int.emod_lt_of_pos (absI cell) m0
  have key : 0 ≤ absI cell % 10 ^ 300 * (if 10 ^ 18 ≤ absI cell then 1 else 0) ∧ absI cell % 10 ^ 300 * (if 10 ^ 18 ≤ absI cell then 1 else 0) < 10 ^ 300 := by
    split
    · rw [Int.mul_one]; exact ⟨x0, x1⟩
    · rw [Int.mul_zero]; exact ⟨Int.le_refl _, m0⟩
  exact ⟨key.1, key.2, Int.emod_nonneg _ (by decide), Int.lt_trans (Int.emod_lt_of_pos _ (by decide)) (by decide), Int.le_refl _, Int.le_refl _⟩
theorem intsOf_map : ∀ is : List Int, intsOf (is.map D.int) = some is
  | [] => rfl
  | i :: is => by
    show (intsOf (is.map D.int)).map (fun js => i :: js) = _
    rw [intsOf_map is]
    rfl
theorem potT_run {K1 K2 K3 c p : Int} {Pn : Mi.Loc → Sto → Prop} {x0 : Option D} {cal : Cal} (h0 : 0 ≤ p) (h1 : p < 100) (k1 : 0 < K1 ∧ K1 < 2 ^ 50) (k2 : 0 < K2 ∧ K2 < 2 ^ 50) {Pr : D → Sto → Prop}
    (k : Pr (.ref S.length) (S ++ [.lst [.int (potF K1 K2 K3 c p).1, .int (potF K1 K2 K3 c p).2.1, .int (potF K1 K2 K3 c p).2.2]])) : Wo (exSs G W cal (potT K1 K2 K3 0) [x0, some (.int p), some (.int c), none, none] S) Pn Pr := by
  have hz : 3 ≤ sizeLine := by decide
  have p1 : powOk 10 60 := ⟨by decide, by decide, by decide, by decide⟩
  have p2 : powOk (10 ^ 60) 5 := ⟨by decide, by decide, by decide, by decide⟩
  have p3 : powOk 10 18 := ⟨by decide, by decide, by decide, by decide⟩
  have e300 : ((10 : Int) ^ 60) ^ (5 : Int).toNat = 10 ^ 300 := by decide
  have m0 : (0 : Int) < 10 ^ 300 := by decide
  have y0 : (0 : Int) < 2305843009213693951 := by decide
  have y1 : (0 : Int) < 2305843009213693921 := by decide
  simp only [potT, Ws_cons, Ws_asg, Ws_ret, ev_op, ev_bi, ev_var, ev_lit, ev_cmp, ev_lst, evs_cons, evs_nil, Wp_bnd, Wp_ok, Wp_lift2, Wp_if, Wp_map, bv_abs, bv_int, bv_bl, ov_pow, ov_mod, ov_mul, ov_add, cv_ge, Ot_if, Ot_some, Oo_some, setT_one, p1, p2, p3, List.getElem?_cons_zero, List.getElem?_cons_succ, List.set_cons_succ, List.set_cons_zero, true_and, List.length_cons, List.length_nil]
  have t60 : (60 : Int).toNat = 60 := rfl
  have t18 : (18 : Int).toNat = 18 := rfl
  rw [t60, t18, e300]
  have x0' := Int.emod_nonneg (if c < 0 then -c else c) (Int.ne_of_gt m0)
  have x1' := Int.emod_lt_of_pos (if c < 0 then -c else c) m0
  have eb : (if decide ((10 : Int) ^ 18 ≤ (if c < 0 then -c else c)) = true then (1 : Int) else 0) = if 10 ^ 18 ≤ absI c then 1 else 0 := by
    unfold absI
    simp only [decide_eq_true_eq]
  have z0 := Int.emod_nonneg c (Int.ne_of_gt y0)
  have z1 := Int.emod_lt_of_pos c y0
  refine ⟨p2, m0, .inr (.inl ⟨by rw [eb]; split <;> omega, by rw [eb]; split <;> omega⟩), y0, .inr (.inl ⟨by omega, by omega⟩), .inl ⟨by omega, by omega⟩, .inr (.inl ⟨by omega, by omega⟩), y1, hz, ?_⟩
  rw [eb]
  exact k
def cellF (g : Int → Int → Int) (is : List Int) (p : Int) : Int := if p < is.length then (is[p.toNat]?).getD 0 else g (is.take (min 1 is.length)).sum p
def potX (K1 K2 K3 : Int) (g : Int → Int → Int) (is : List Int) (p : Int) : Option Pt := if 0 ≤ p ∧ p < 100 then some (potF K1 K2 K3 (cellF g is p) p) else none
theorem cut1 (is : List Int) : cutD (is.map D.int) none (some 1) = (is.take (min 1 is.length)).map D.int := by
  unfold cutD
  rw [List.length_map]
  show ((is.map D.int).drop 0).take (min (1 : Int).toNat is.length - 0) = _
  rw [List.drop_zero, List.map_take]
  rfl
/-- what TxOk asks of a making -/
theorem pot_step {K1 K2 K3 : Int} {g : Int → Int → Int} {is : List Int} {p a b c : Int} {other : E} {nm : Str} (k1 : 0 < K1 ∧ K1 < 2 ^ 50) (k2 : 0 < K2 ∧ K2 < 2 ^ 50)
    (hT : T[f]? = some ⟨nm, 2, 5, .asg (.one 2) (.ite (.cmp .lt (.var 1) (.bi .len [.var 0])) (.ix (.var 0) (.var 1)) other) :: potT K1 K2 K3 0⟩)
    (ho : 0 ≤ p → p < 100 → ∃ Z, evE G (calF G W T n) other [some (.frz (is.map .int)), some (.int p), none, none, none] S = some (.ok (.int (g (is.take (min 1 is.length)).sum p)) (S ++ Z)))
    (h : potX K1 K2 K3 g is p = some (a, b, c)) : ∃ S' r, calF G W T (n + 1) f [.frz (is.map .int), .int p] S = some (.ok (.ref r) S') ∧ S.length ≤ r ∧ (∀ j, j < S.length → S'[j]? = S[j]?) ∧ S'[r]? = some (.lst [.int a, .int b, .int c]) := by
  unfold potX at h
  split at h
  · rename_i hp
    have h := Option.some.inj h
    have w : Wp (calF G W T (n + 1) f [.frz (is.map .int), .int p] S) fun d S' => ∃ r, d = .ref r ∧ S.length ≤ r ∧ (∀ j, j < S.length → S'[j]? = S[j]?) ∧ S'[r]? = some (.lst [.int a, .int b, .int c]) := by
      refine Wp_call hT rfl ?_
      show Wo (exSs G W (calF G W T n) (.asg (.one 2) (.ite (.cmp .lt (.var 1) (.bi .len [.var 0])) (.ix (.var 0) (.var 1)) other) :: potT K1 K2 K3 0) [some (.frz (is.map .int)), some (.int p), none, none, none] S) _ _
      have fin : ∀ (Z : Sto), Wo (exSs G W (calF G W T n) (potT K1 K2 K3 0) [some (.frz (is.map .int)), some (.int p), some (.int (cellF g is p)), none, none] (S ++ Z)) (fun _ _ => False) fun d S' => ∃ r, d = .ref r ∧ S.length ≤ r ∧ (∀ j, j < S.length → S'[j]? = S[j]?) ∧ S'[r]? = some (.lst [.int a, .int b, .int c]) := fun Z => by
        refine potT_run hp.1 hp.2 k1 k2 ⟨_, rfl, by simp, fun j hj => ?_, ?_⟩
        · rw [List.append_assoc, List.getElem?_append_left hj]
        · rw [h, List.getElem?_append_right (by simp)]
          simp
      rw [Ws_cons, Ws_asg, ev_ite]
      simp only [ev_cmp, ev_bi, ev_var, evs_cons, evs_nil, Wp_bnd, Wp_ok, Wp_tst, Wp_map, len_frz, Wp_lift2, Ot_some, cv_lt, Oo_some, IsB_bl, List.getElem?_cons_zero, List.getElem?_cons_succ, List.length_map, decide_eq_true_eq]
      by_cases hl : p < is.length
      · rw [if_pos hl]
        simp only [ev_ix, ev_var, Wp_bnd, Wp_ok, Wp_map, ix_frz, List.getElem?_cons_zero, List.getElem?_cons_succ]
        have hv : p.toNat < is.length := by omega
        have e1 : L2.atI (is.map D.int) p = some (.int is[p.toNat]) := by
          unfold L2.atI ixN
          rw [if_pos hp.1, List.length_map, if_pos hl]
          show (is.map D.int)[p.toNat]? = _
          rw [List.getElem?_map, List.getElem?_eq_getElem hv]
          rfl
        have e2 : cellF g is p = is[p.toNat] := by
          unfold cellF
          rw [if_pos hl, List.getElem?_eq_getElem hv]
          rfl
        rw [e1, Oo_some, setT_one, Oo_some]
        have z := fin []
        rw [List.append_nil, e2] at z
        exact Wo_mono z (fun _ _ z => z.elim) fun _ _ z => z
      · rw [if_neg hl]
        obtain ⟨Z, e⟩ := ho hp.1 hp.2
        rw [e, Wp_ok, setT_one, Oo_some]
        have z := fin Z
        have e2 : cellF g is p = g (is.take (min 1 is.length)).sum p := by
          unfold cellF
          rw [if_neg hl]
        rw [e2] at z
        exact Wo_mono z (fun _ _ z => z.elim) fun _ _ z => z
    obtain ⟨d, S', e, r, rfl, h1, h2, h3⟩ := w
    exact ⟨S', r, e, h1, h2, h3⟩
  · cases h
def g1 (M1 M2 M3 s p : Int) : Int := s % M1 + M2 * p + M3
def g3 (M2 M3 s p : Int) : Int := M2 * p + M3
theorem pot1_ev {cal : Cal} {M1 M2 M3 p : Int} {is : List Int} (h1 : 0 < M1) (h2 : 0 ≤ p) (h3 : p < 100) {x2 x3 x4 : Option D} : ∃ Z, evE G cal (.op .add (.op .add (.op .mod (.bi .int [.bi .sum [.slc (.var 0) none (some (.lit (.int 1)))]]) (.lit (.int M1))) (.op .mul (.lit (.int M2)) (.var 1))) (.lit (.int M3))) [some (.frz (is.map .int)), some (.int p), x2, x3, x4] S = some (.ok (.int (g1 M1 M2 M3 (is.take (min 1 is.length)).sum p)) (S ++ Z)) := by
  have w : Wp (evE G cal (.op .add (.op .add (.op .mod (.bi .int [.bi .sum [.slc (.var 0) none (some (.lit (.int 1)))]]) (.lit (.int M1))) (.op .mul (.lit (.int M2)) (.var 1))) (.lit (.int M3))) [some (.frz (is.map .int)), some (.int p), x2, x3, x4] S) fun d S' => d = .int (g1 M1 M2 M3 (is.take (min 1 is.length)).sum p) ∧ S' = S ++ [.lst ((is.take (min 1 is.length)).map D.int)] := by
    have hs : slcD S (.frz (is.map .int)) none (some 1) = some (.ref S.length, S ++ [.lst (cutD (is.map D.int) none (some 1))]) := rfl
    have hb : biD (S ++ [.lst ((is.take (min 1 is.length)).map D.int)]) .sum [.ref S.length] = some (.int (is.take (min 1 is.length)).sum, S ++ [.lst ((is.take (min 1 is.length)).map D.int)]) := by
      show (lstAt (S ++ [.lst ((is.take (min 1 is.length)).map D.int)]) S.length).bind (fun xs => (intsOf xs).map fun is => (D.int is.sum, _)) = _
      rw [lstAt_new rfl]
      show (intsOf _).map _ = _
      rw [intsOf_map]
      rfl
    simp only [ev_op, ev_bi, ev_slc, ev_var, ev_lit, evs_cons, evs_nil, evp_none, evp_some, IsI_int, Wp_bnd, Wp_ok, Wp_lift2, hs, cut1, Ot_some, hb, bv_int, ov_mod, ov_mul, ov_add, Ot_if, List.getElem?_cons_zero, List.getElem?_cons_succ]
    exact ⟨h1, .inr (.inl ⟨by omega, by omega⟩), rfl, trivial⟩
  obtain ⟨d, S', e, rfl, rfl⟩ := w
  exact ⟨_, e⟩
theorem pot2_ev {cal : Cal} {M1 M2 M3 p : Int} {is : List Int} (h1 : 0 < M1) (h2 : 0 ≤ p) (h3 : p < 100) {x2 x3 x4 : Option D} : ∃ Z, evE G cal (.op .add (.op .add (.op .mod (.bi .sum [.slc (.var 0) none (some (.lit (.int 1)))]) (.lit (.int M1))) (.op .mul (.lit (.int M2)) (.var 1))) (.lit (.int M3))) [some (.frz (is.map .int)), some (.int p), x2, x3, x4] S = some (.ok (.int (g1 M1 M2 M3 (is.take (min 1 is.length)).sum p)) (S ++ Z)) := by
  have w : Wp (evE G cal (.op .add (.op .add (.op .mod (.bi .sum [.slc (.var 0) none (some (.lit (.int 1)))]) (.lit (.int M1))) (.op .mul (.lit (.int M2)) (.var 1))) (.lit (.int M3))) [some (.frz (is.map .int)), some (.int p), x2, x3, x4] S) fun d S' => d = .int (g1 M1 M2 M3 (is.take (min 1 is.length)).sum p) ∧ S' = S ++ [.lst ((is.take (min 1 is.length)).map D.int)] := by
    have hs : slcD S (.frz (is.map .int)) none (some 1) = some (.ref S.length, S ++ [.lst (cutD (is.map D.int) none (some 1))]) := rfl
    have hb : biD (S ++ [.lst ((is.take (min 1 is.length)).map D.int)]) .sum [.ref S.length] = some (.int (is.take (min 1 is.length)).sum, S ++ [.lst ((is.take (min 1 is.length)).map D.int)]) := by
      show (lstAt (S ++ [.lst ((is.take (min 1 is.length)).map D.int)]) S.length).bind (fun xs => (intsOf xs).map fun is => (D.int is.sum, _)) = _
      rw [lstAt_new rfl]
      show (intsOf _).map _ = _
      rw [intsOf_map]
      rfl
    simp only [ev_op, ev_bi, ev_slc, ev_var, ev_lit, evs_cons, evs_nil, evp_none, evp_some, IsI_int, Wp_bnd, Wp_ok, Wp_lift2, hs, cut1, Ot_some, hb, bv_int, ov_mod, ov_mul, ov_add, Ot_if, List.getElem?_cons_zero, List.getElem?_cons_succ]
    exact ⟨h1, .inr (.inl ⟨by omega, by omega⟩), rfl, trivial⟩
  obtain ⟨d, S', e, rfl, rfl⟩ := w
  exact ⟨_, e⟩
theorem pot3_ev {cal : Cal} {M2 M3 p : Int} {is : List Int} (h2 : 0 ≤ p) (h3 : p < 100) {x2 x3 x4 : Option D} : ∃ Z, evE G cal (.op .add (.op .mul (.lit (.int M2)) (.var 1)) (.lit (.int M3))) [some (.frz (is.map .int)), some (.int p), x2, x3, x4] S = some (.ok (.int (g3 M2 M3 (is.take (min 1 is.length)).sum p)) (S ++ Z)) := by
  have w : Wp (evE G cal (.op .add (.op .mul (.lit (.int M2)) (.var 1)) (.lit (.int M3))) [some (.frz (is.map .int)), some (.int p), x2, x3, x4] S) fun d S' => d = .int (g3 M2 M3 (is.take (min 1 is.length)).sum p) ∧ S' = S := by
    simp only [ev_op, ev_var, ev_lit, Wp_bnd, Wp_ok, Wp_lift2, Ot_some, ov_mul, ov_add, Ot_if, List.getElem?_cons_zero, List.getElem?_cons_succ]
    exact ⟨.inr (.inl ⟨by omega, by omega⟩), rfl, trivial⟩
  obtain ⟨d, S', e, rfl, rfl⟩ := w
  exact ⟨[], by rw [List.append_nil]; exact e⟩
end
end Pv

end
section
set_option Elab.async false
set_option linter.all false
set_option maxRecDepth 100000
set_option maxHeartbeats 1000000
/-! Reckoning with values: rules for simp, and backwards from what is wanted. -/
namespace Pv
open PySem L2 Mi
theorem size_eq : sizeLine = 16777216 := by decide
def Wu {α : Type} (x : Option (Rv α)) (Q : α → Ps → Prop) : Prop := ∃ a P, x = some (.ok a P) ∧ Q a P
def Wv (x : Option OU) (Qn : LocU → Ps → Prop) (Qr : U → Ps → Prop) : Prop := (∃ ρ P, x = some (.nx ρ P) ∧ Qn ρ P) ∨ ∃ u P, x = some (.rt u P) ∧ Qr u P
/-! ### combinators -/
def bndO {α : Type} (x : Option (Rv α)) (k : α → Ps → Option OU) : Option OU := match x with
  | some (.ok a P) => k a P
  | some (.ex c v P) => some (.ex c v P)
  | none => none
theorem ofU_eq (x : Option (Rv U)) (k : U → Ps → Option OU) : ofU x k = bndO x k := by
  cases x with
  | none => rfl
  | some r => cases r <;> rfl
def iteO (x : Option (Rv Bool)) (f g : Ps → Option OU) : Option OU := match x with
  | some (.ok true P) => f P
  | some (.ok false P) => g P
  | some (.ex c v P) => some (.ex c v P)
  | none => none
def seqO' (x : Option OU) (k : LocU → Ps → Option OU) : Option OU := match x with
  | some (.nx ρ P) => k ρ P
  | some (.rt u P) => some (.rt u P)
  | some (.ex c v P) => some (.ex c v P)
  | none => none
def finO (x : Option OU) : Option (Rv U) := match x with
  | some (.nx _ P) => some (.ok .non P)
  | some (.rt u P) => some (.ok u P)
  | some (.ex c v P) => some (.ex c v P)
  | none => none
section
variable {α β : Type} {P P' : Ps} {c : Prop} [Decidable c]
@[simp] theorem bndO_ok (a : α) (k : α → Ps → Option OU) : bndO (some (.ok a P)) k = k a P := rfl
@[simp] theorem iteO_ok (b : Bool) (f g : Ps → Option OU) : iteO (some (.ok b P)) f g = if b = true then f P else g P := by cases b <;> rfl
@[simp] theorem seqO_nx (ρ : LocU) (k : LocU → Ps → Option OU) : seqO' (some (.nx ρ P)) k = k ρ P := rfl
@[simp] theorem seqO_rt (u : U) (k : LocU → Ps → Option OU) : seqO' (some (.rt u P)) k = some (.rt u P) := rfl
@[simp] theorem seqO_if (x y : Option OU) (k : LocU → Ps → Option OU) : seqO' (if c then x else y) k = if c then seqO' x k else seqO' y k := by split <;> rfl
@[simp] theorem finO_nx (ρ : LocU) : finO (some (.nx ρ P)) = some (.ok .non P) := rfl
@[simp] theorem finO_rt (u : U) : finO (some (.rt u P)) = some (.ok u P) := rfl
@[simp] theorem finO_if (x y : Option OU) : finO (if c then x else y) = if c then finO x else finO y := by split <;> rfl
@[simp] theorem bndV_if (x y : Option (Rv α)) (k : α → Ps → Option (Rv β)) : bndV (if c then x else y) k = if c then bndV x k else bndV y k := by split <;> rfl
@[simp] theorem bndO_if (x y : Option (Rv α)) (k : α → Ps → Option OU) : bndO (if c then x else y) k = if c then bndO x k else bndO y k := by split <;> rfl
@[simp] theorem tstU_bl (b : Bool) : tstU (some (.ok (.bl b) P)) = some (.ok b P) := rfl
@[simp] theorem tstU_if (x y : Option (Rv U)) : tstU (if c then x else y) = if c then tstU x else tstU y := by split <;> rfl
@[simp] theorem iteO_if (x y : Option (Rv Bool)) (f g : Ps → Option OU) : iteO (if c then x else y) f g = if c then iteO x f g else iteO y f g := by split <;> rfl
@[simp] theorem liftU_if (x y : Option U) : liftU (if c then x else y) P = if c then liftU x P else liftU y P := by split <;> rfl
@[simp] theorem bndO_none (k : α → Ps → Option OU) : bndO none k = none := rfl
@[simp] theorem iteO_none (f g : Ps → Option OU) : iteO none f g = none := rfl
@[simp] theorem seqO_none (k : LocU → Ps → Option OU) : seqO' none k = none := rfl
@[simp] theorem finO_none : finO none = none := rfl
@[simp] theorem liftU_none : liftU none P = none := rfl
@[simp] theorem tstU_none : tstU none = none := rfl
@[simp] theorem noXU_ok (a : α) : noXU (some (.ok a P)) = some (.ok a P) := rfl
@[simp] theorem liftU_map {γ : Type} (x : Option γ) (f : γ → U) : liftU (x.map f) P = x.map fun a => .ok (f a) P := by cases x <;> rfl
end
section
variable {G : Nat → Option U} {cal : CalU} {ρ : LocU} {P : Ps} {W : Nat}
@[simp] theorem eu_var (i : Nat) : evU G cal (.var i) ρ P = (match ρ[i]? with
    | some (some d) => some (.ok d P)
    | _ => none) := by rw [evU] <;> rfl
@[simp] theorem eu_non : evU G cal (.lit .non) ρ P = some (.ok .non P) := by rw [evU] <;> rfl
@[simp] theorem eu_bl (b : Bool) : evU G cal (.lit (.bl b)) ρ P = some (.ok (.bl b) P) := by rw [evU] <;> rfl
@[simp] theorem eu_int (i : Int) : evU G cal (.lit (.int i)) ρ P = some (.ok (.int i) P) := by rw [evU] <;> rfl
@[simp] theorem eu_str (x : Str) : evU G cal (.lit (.str x)) ρ P = some (.ok (.str x) P) := by rw [evU] <;> rfl
@[simp] theorem eu_glb (k : Nat) : evU G cal (.glb k) ρ P = (match G k with
    | some d => some (.ok d P)
    | none => none) := by rw [evU] <;> rfl
@[simp] theorem eu_tup (es : List E) : evU G cal (.tup es) ρ P = bndV (evUs G cal es ρ P) fun ds P1 => if ds.length ≤ sizeLine then some (.ok (.tup ds) P1) else none := by rw [evU]
@[simp] theorem eu_lst (es : List E) : evU G cal (.lst es) ρ P = bndV (evUs G cal es ρ P) fun ds P1 => if ds.length ≤ sizeLine then some (.ok (.lst ds) P1) else none := by rw [evU]
@[simp] theorem eu_dic (ks : List Str) (es : List E) : evU G cal (.dic ks es) ρ P = bndV (evUs G cal es ρ P) fun ds P1 => if ks.length = ds.length then some (.ok (.dct (ks.map .str) ds) P1) else none := by rw [evU]
@[simp] theorem eu_op (o : Op2) (a b : E) : evU G cal (.op o a b) ρ P = bndV (evU G cal a ρ P) fun x P1 => bndV (evU G cal b ρ P1) fun y P2 => liftU (opU o x y) P2 := by rw [evU]
@[simp] theorem eu_neg (a : E) : evU G cal (.neg a) ρ P = bndV (evU G cal a ρ P) fun x P1 => match x with
    | .int i => some (.ok (.int (-i)) P1)
    | _ => none := by rw [evU] <;> rfl
@[simp] theorem eu_cmp (c : Cm) (a b : E) : evU G cal (.cmp c a b) ρ P = bndV (evU G cal a ρ P) fun x P1 => bndV (evU G cal b ρ P1) fun y P2 => (cmpU c x y).map fun r => .ok (.bl r) P2 := by rw [evU]
/-- the second half of a chain -/
def chn (x : Option Bool) (f g : Option (Rv U)) : Option (Rv U) := match x with
  | some true => f
  | some false => g
  | none => none
@[simp] theorem chn_some (b : Bool) (f g : Option (Rv U)) : chn (some b) f g = if b = true then f else g := by cases b <;> rfl
@[simp] theorem eu_chain (c1 c2 : Cm) (a b c : E) : evU G cal (.chain c1 c2 a b c) ρ P = bndV (evU G cal a ρ P) fun x P1 => bndV (evU G cal b ρ P1) fun y P2 => chn (cmpU c1 x y) (bndV (evU G cal c ρ P2) fun z P3 => (cmpU c2 y z).map fun r => .ok (.bl r) P3) (some (.ok (.bl false) P2)) := by
  rw [evU]
  refine congrArg _ (funext fun x => funext fun P1 => congrArg _ (funext fun y => funext fun P2 => ?_))
  cases cmpU c1 x y with
  | none => rfl
  | some b => cases b <;> rfl
@[simp] theorem eu_and (es : List E) : evU G cal (.and es) ρ P = evAndU G cal es ρ P := by rw [evU]
@[simp] theorem eu_or (es : List E) : evU G cal (.or es) ρ P = evOrU G cal es ρ P := by rw [evU]
@[simp] theorem eu_not (a : E) : evU G cal (.not a) ρ P = bndV (tstU (evU G cal a ρ P)) fun b P1 => some (.ok (.bl (!b)) P1) := by rw [evU]
@[simp] theorem eu_ite (c a b : E) : evU G cal (.ite c a b) ρ P = bndV (tstU (evU G cal c ρ P)) fun t P1 => if t = true then evU G cal a ρ P1 else evU G cal b ρ P1 := by rw [evU]
@[simp] theorem eu_ix (a b : E) : evU G cal (.ix a b) ρ P = bndV (evU G cal a ρ P) fun x P1 => bndV (evU G cal b ρ P1) fun y P2 => liftU (ixU x y) P2 := by rw [evU]
@[simp] theorem eu_slc (a : E) (lo hi : Option E) : evU G cal (.slc a lo hi) ρ P = bndV (evU G cal a ρ P) fun x P1 => bndV (evOU G cal lo ρ P1) fun l P2 => bndV (evOU G cal hi ρ P2) fun h P3 => liftU (slcU x l h) P3 := by rw [evU]
@[simp] theorem eu_rev (a : E) : evU G cal (.rev a) ρ P = bndV (evU G cal a ρ P) fun x P1 => liftU (revU x) P1 := by rw [evU]
@[simp] theorem eu_call (f : Nat) (es : List E) : evU G cal (.call f es) ρ P = bndV (evUs G cal es ρ P) fun ds P1 => cal f ds P1 := by rw [evU]
@[simp] theorem eu_bi (b : Bi) (es : List E) : evU G cal (.bi b es) ρ P = bndV (evUs G cal es ρ P) fun ds P1 => liftU (biU b ds) P1 := by rw [evU]
/-- a comprehension, its items at hand -/
theorem eu_lc (vs : List Nat) (t : Tg) (k : Ik) (its cs : List E) (elt : E) : evU G cal (.lc vs t k its cs elt) ρ P = bndV (evUs G cal its ρ P) fun ds P1 => match itU k ds with
    | some xs => bndV (noXU (compU (fun x P2 => (setU (wipeU ρ vs) t x).bind fun ρ' => evTU G cal cs ρ' P2) (fun x P2 => (setU (wipeU ρ vs) t x).bind fun ρ' => evU G cal elt ρ' P2) xs P1)) fun ys P3 => if ys.length ≤ sizeLine then some (.ok (.lst ys) P3) else none
    | none => none := by rw [evU] <;> rfl
@[simp] theorem eus_nil : evUs G cal [] ρ P = some (.ok [] P) := by rw [evUs]
@[simp] theorem eus_cons (e : E) (es : List E) : evUs G cal (e :: es) ρ P = bndV (evU G cal e ρ P) fun d P1 => bndV (evUs G cal es ρ P1) fun ds P2 => some (.ok (d :: ds) P2) := by rw [evUs]
@[simp] theorem eua_one (e : E) : evAndU G cal [e] ρ P = bndV (tstU (evU G cal e ρ P)) fun b P1 => some (.ok (.bl b) P1) := by rw [evAndU]
@[simp] theorem eua_more (e e2 : E) (es : List E) : evAndU G cal (e :: e2 :: es) ρ P = bndV (tstU (evU G cal e ρ P)) fun b P1 => if b = true then evAndU G cal (e2 :: es) ρ P1 else some (.ok (.bl false) P1) := by rw [evAndU]
@[simp] theorem euo_one (e : E) : evOrU G cal [e] ρ P = bndV (tstU (evU G cal e ρ P)) fun b P1 => some (.ok (.bl b) P1) := by rw [evOrU]
@[simp] theorem euo_more (e e2 : E) (es : List E) : evOrU G cal (e :: e2 :: es) ρ P = bndV (tstU (evU G cal e ρ P)) fun b P1 => if b = true then some (.ok (.bl true) P1) else evOrU G cal (e2 :: es) ρ P1 := by rw [evOrU]
@[simp] theorem eut_nil : evTU G cal [] ρ P = some (.ok true P) := by rw [evTU]
@[simp] theorem eut_cons (e : E) (es : List E) : evTU G cal (e :: es) ρ P = bndV (tstU (evU G cal e ρ P)) fun b P1 => if b = true then evTU G cal es ρ P1 else some (.ok false P1) := by rw [evTU]
@[simp] theorem euq_none : evOU G cal none ρ P = some (.ok none P) := by rw [evOU]
@[simp] theorem euq_some (e : E) : evOU G cal (some e) ρ P = bndV (evU G cal e ρ P) fun d P1 => match d with
    | .int i => some (.ok (some i) P1)
    | _ => none := by rw [evOU] <;> rfl
/-! ### statements -/
@[simp] theorem xs_nil : exUs G W cal [] ρ P = some (.nx ρ P) := by rw [exUs]
@[simp] theorem xs_cons (s : Sm) (ss : List Sm) : exUs G W cal (s :: ss) ρ P = seqO' (exU G W cal s ρ P) fun ρ1 P1 => exUs G W cal ss ρ1 P1 := by rw [exUs] <;> rfl
@[simp] theorem x_asg (t : Tg) (e : E) : exU G W cal (.asg t e) ρ P = bndO (evU G cal e ρ P) fun d P1 => (setU ρ t d).map fun ρ1 => .nx ρ1 P1 := by rw [exU, ofU_eq]
@[simp] theorem x_ret (e : E) : exU G W cal (.ret e) ρ P = bndO (evU G cal e ρ P) fun d P1 => some (.rt d P1) := by rw [exU, ofU_eq]
@[simp] theorem x_ite (c : E) (a b : List Sm) : exU G W cal (.ite c a b) ρ P = iteO (tstU (evU G cal c ρ P)) (fun P1 => exUs G W cal a ρ P1) fun P1 => exUs G W cal b ρ P1 := by rw [exU] <;> rfl
@[simp] theorem x_call (f : Nat) (es : List E) : exU G W cal (.expr (.call f es)) ρ P = bndO (evU G cal (.call f es) ρ P) fun _ P1 => some (.nx ρ P1) := by
  rw [exU, ofU_eq] <;> (intros; contradiction)
@[simp] theorem x_app (i : Nat) (e : E) : exU G W cal (.expr (.app (.var i) e)) ρ P = (slot ρ i).bind fun xs => bndO (evU G cal e ρ P) fun v P1 => if xs.length < sizeLine then some (.nx (ρ.set i (some (.lst (xs ++ [v])))) P1) else none := by rw [exU]; simp only [ofU_eq]
@[simp] theorem x_ext (i : Nat) (e : E) : exU G W cal (.expr (.ext (.var i) e)) ρ P = (slot ρ i).bind fun xs => bndO (evU G cal e ρ P) fun v P1 => match v with
    | .lst ys => if xs.length + ys.length ≤ sizeLine then some (.nx (ρ.set i (some (.lst (xs ++ ys)))) P1) else none
    | _ => none := by rw [exU]; simp only [ofU_eq] <;> rfl
@[simp] theorem x_set (i : Nat) (k e : E) : exU G W cal (.setIx (.var i) k e) ρ P = (slot ρ i).bind fun xs => bndO (evU G cal e ρ P) fun v P1 => bndO (evU G cal k ρ P1) fun y P2 => match y with
    | .int n => (ixN xs.length n).map fun j => .nx (ρ.set i (some (.lst (xs.set j v)))) P2
    | _ => none := by rw [exU]; simp only [ofU_eq] <;> rfl
theorem x_for (t : Tg) (k : Ik) (its : List E) (body : List Sm) : exU G W cal (.for_ t k its body) ρ P = bndO (evUs G cal its ρ P) fun ds P1 => (itU k ds).bind fun xs => forU t (fun ρ P => exUs G W cal body ρ P) xs ρ P1 := by
  rw [exU]
  cases evUs G cal its ρ P with
  | none => rfl
  | some r =>
    cases r with
    | ok a P1 =>
      show _ = (itU k a).bind _
      dsimp only
      cases itU k a <;> rfl
    | ex c v P1 => rfl
theorem x_whl (c : E) (body : List Sm) : exU G W cal (.whl c body) ρ P = whlU (fun ρ P => tstU (evU G cal c ρ P)) (fun ρ P => exUs G W cal body ρ P) W ρ P := by rw [exU]
theorem call_eq {X : Tx} {n g : Nat} {F : Fd} {us : List U} (hg : 2 ≤ g) (hT : X.T g = some F) (hl : us.length = F.np) : calU X (n + 1) g us P = finO (exUs X.G X.W (calU X n) F.body (us.map some ++ List.replicate (F.ns - us.length) none) P) := by
  match g, hg with
  | f + 2, _ =>
    show (match X.T (f + 2) with
      | some F => if us.length = F.np then match exUs X.G X.W (calU X n) F.body (us.map some ++ List.replicate (F.ns - us.length) none) P with
          | some (.nx _ S1) => some (Rv.ok U.non S1)
          | some (.rt d S1) => some (.ok d S1)
          | some (.ex c v S1) => some (.ex c v S1)
          | none => none
        else none
      | none => none) = _
    rw [hT]
    dsimp only
    rw [if_pos hl]
    rfl
end
/-! ### operations -/
section
variable {P : Ps}
@[simp] theorem ou_add (i j : Int) : opU .add (.int i) (.int j) = some (.int (i + j)) := rfl
@[simp] theorem ou_sub (i j : Int) : opU .sub (.int i) (.int j) = some (.int (i - j)) := rfl
theorem mulB_of {i j : Int} (h : mulOk i j) : mulB i j = true := stk_iff.mpr h
theorem fdB_of {j : Int} (h : fdOk j) : fdB j = true := stk_iff.mpr h
theorem powB_of {i j : Int} (h : powOk i j) : powB i j = true := stk_iff.mpr h
theorem rngB_of {a b : Int} (h1 : -(2 ^ 60) ≤ a) (h2 : a ≤ 2 ^ 60) (h3 : -(2 ^ 60) ≤ b) (h4 : b ≤ 2 ^ 60) : rngB a b = true := stk_iff.mpr ⟨by omega, by omega, by omega, by omega⟩
theorem rgB_of {a b : Int} (h : rgOk a b) : rgB a b = true := stk_iff.mpr h
theorem strB_of {i : Int} (h : i.natAbs.log2 < 1920) : strB i = true := stk_iff.mpr h
theorem mulB_l {i j : Int} (h1 : -(2 ^ 63) ≤ i) (h2 : i ≤ 2 ^ 63) : mulB i j = true := mulB_of (.inl ⟨by omega, by omega⟩)
theorem mulB_r {i j : Int} (h1 : -(2 ^ 63) ≤ j) (h2 : j ≤ 2 ^ 63) : mulB i j = true := mulB_of (.inr (.inl ⟨by omega, by omega⟩))
theorem fdB_p {j : Int} (h : 0 < j) (h2 : j < 2 ^ 64) : fdB j = true := fdB_of (fdOk_of h h2)
@[simp] theorem ou_mul (i j : Int) : opU .mul (.int i) (.int j) = if mulB i j = true then some (.int (i * j)) else none := rfl
@[simp] theorem ou_fdiv (i j : Int) : opU .fdiv (.int i) (.int j) = if fdB j = true then some (.int (i / j)) else none := rfl
@[simp] theorem ou_mod (i j : Int) : opU .mod (.int i) (.int j) = if 0 < j then some (.int (i % j)) else none := rfl
@[simp] theorem ou_pow (i j : Int) : opU .pow (.int i) (.int j) = if powB i j = true then some (.int (i ^ j.toNat)) else none := rfl
@[simp] theorem ou_tup (xs ys : List U) : opU .add (.tup xs) (.tup ys) = if xs.length + ys.length ≤ sizeLine then some (.tup (xs ++ ys)) else none := rfl
@[simp] theorem ou_lst (xs ys : List U) : opU .add (.lst xs) (.lst ys) = if xs.length + ys.length ≤ sizeLine then some (.lst (xs ++ ys)) else none := rfl
@[simp] theorem ou_str (x y : Str) : opU .add (.str x) (.str y) = if x.length + y.length ≤ sizeLine then some (.str (x ++ y)) else none := rfl
@[simp] theorem cu_lt (i j : Int) : cmpU .lt (.int i) (.int j) = some (decide (i < j)) := rfl
@[simp] theorem cu_le (i j : Int) : cmpU .le (.int i) (.int j) = some (decide (i ≤ j)) := rfl
@[simp] theorem cu_gt (i j : Int) : cmpU .gt (.int i) (.int j) = some (decide (j < i)) := rfl
@[simp] theorem cu_ge (i j : Int) : cmpU .ge (.int i) (.int j) = some (decide (j ≤ i)) := rfl
@[simp] theorem cu_isN (x : U) : cmpU .isN x .non = some (isNonU x) := by cases x <;> rfl
@[simp] theorem cu_notN (x : U) : cmpU .notN x .non = some (!isNonU x) := by cases x <;> rfl
@[simp] theorem cu_eqS (a b : Str) : cmpU .eq (.str a) (.str b) = some (decide (a = b)) := rfl
@[simp] theorem cu_neS (a b : Str) : cmpU .ne (.str a) (.str b) = some (!decide (a = b)) := rfl
theorem eq0 {x y : U} (h : x.rd ≤ 8 ∧ y.rd ≤ 8 ∧ (SeqAt.shaped x.toP && SeqAt.shaped y.toP) = true) (hs : ∀ a b, x = .str a → y = .str b → False) : eqU x y = some (PyData.eqv x.toP y.toP) := by
  unfold eqU
  split
  · rename_i a b
    exact (hs a b rfl rfl).elim
  · exact if_pos h
@[simp] theorem cu_eqI (i j : Int) : cmpU .eq (.int i) (.int j) = some (decide (i = j)) := by
  show eqU (.int i) (.int j) = _
  rw [eq0 ⟨by simp [U.rd], by simp [U.rd], by rfl⟩ (fun _ _ h => by cases h)]
  simp only [U.toP]
  congr 1
@[simp] theorem cu_neI (i j : Int) : cmpU .ne (.int i) (.int j) = some (!decide (i = j)) := by
  show (cmpU .eq (.int i) (.int j)).map (fun b => !b) = _
  rw [cu_eqI]
  rfl
@[simp] theorem cu_eqB (i j : Bool) : cmpU .eq (.bl i) (.bl j) = some (i == j) := by
  show eqU (.bl i) (.bl j) = _
  rw [eq0 ⟨by simp [U.rd], by simp [U.rd], by rfl⟩ (fun _ _ h => by cases h)]
  simp only [U.toP]
  congr 1
@[simp] theorem cu_neB (i j : Bool) : cmpU .ne (.bl i) (.bl j) = some (!(i == j)) := by
  show (cmpU .eq (.bl i) (.bl j)).map (fun b => !b) = _
  rw [cu_eqB]
  rfl
@[simp] theorem ix_tupU (xs : List U) (i : Int) : ixU (.tup xs) (.int i) = L2.atI xs i := rfl
@[simp] theorem ix_lstU (xs : List U) (i : Int) : ixU (.lst xs) (.int i) = L2.atI xs i := rfl
@[simp] theorem ix_frzU (xs : List U) (i : Int) : ixU (.frz xs) (.int i) = L2.atI xs i := rfl
@[simp] theorem bu_lenT (xs : List U) : biU .len [.tup xs] = some (.int xs.length) := rfl
@[simp] theorem bu_lenL (xs : List U) : biU .len [.lst xs] = some (.int xs.length) := rfl
@[simp] theorem bu_lenF (xs : List U) : biU .len [.frz xs] = some (.int xs.length) := rfl
@[simp] theorem bu_lenS (z : Str) : biU .len [.str z] = if z.length ≤ sizeLine then some (.int z.length) else none := rfl
@[simp] theorem bu_intI (i : Int) : biU .int [.int i] = some (.int i) := rfl
@[simp] theorem bu_intB (b : Bool) : biU .int [.bl b] = some (.int (if b then 1 else 0)) := rfl
@[simp] theorem bu_abs (i : Int) : biU .abs [.int i] = some (.int (if i < 0 then -i else i)) := rfl
@[simp] theorem bu_min (i j : Int) : biU .min2 [.int i, .int j] = some (.int (if j < i then j else i)) := rfl
@[simp] theorem bu_max (i j : Int) : biU .max2 [.int i, .int j] = some (.int (if j > i then j else i)) := rfl
@[simp] theorem bu_isi (t : String) (x : U) : biU (.isi t) [x] = (isiU t x).map .bl := rfl
@[simp] theorem bu_repr (x : U) : biU .repr [x] = (reprU x).map .str := rfl
@[simp] theorem bu_all (xs : List U) : biU .all [.lst xs] = (blsU xs).map fun bs => .bl (bs.all id) := rfl
@[simp] theorem bu_any (xs : List U) : biU .any [.lst xs] = (blsU xs).map fun bs => .bl (bs.any id) := rfl
@[simp] theorem bu_sum (xs : List U) : biU .sum [.lst xs] = (intsU xs).map fun is => .int is.sum := rfl
theorem bu_rng1 (b : Int) : biU .rng1 [.int b] = if rgB 0 b = true then some (.lst (rgU 0 b)) else none := rfl
theorem bu_rng (a b : Int) : biU .rng [.int a, .int b] = if rgB a b = true then some (.lst (rgU a b)) else none := rfl
@[simp] theorem bu_lstL (xs : List U) : biU .lst [.lst xs] = some (.lst xs) := rfl
@[simp] theorem bu_lstT (xs : List U) : biU .lst [.tup xs] = some (.lst xs) := rfl
@[simp] theorem bu_tupL (xs : List U) : biU .tuple [.lst xs] = some (.tup xs) := rfl
@[simp] theorem bu_tupT (xs : List U) : biU .tuple [.tup xs] = some (.tup xs) := rfl
@[simp] theorem su_one (ρ : LocU) (i : Nat) (d : U) : setU ρ (.one i) d = some (ρ.set i (some d)) := rfl
@[simp] theorem su_tup (ρ : LocU) (is : List Nat) (xs : List U) : setU ρ (.tup is) (.tup xs) = if xs.length = is.length then some (setAllU ρ is xs) else none := rfl
@[simp] theorem sa_cons (ρ : LocU) (i : Nat) (is : List Nat) (d : U) (ds : List U) : setAllU ρ (i :: is) (d :: ds) = setAllU (ρ.set i (some d)) is ds := rfl
@[simp] theorem sa_nil (ρ : LocU) (ds : List U) : setAllU ρ [] ds = ρ := by cases ds <;> rfl
@[simp] theorem wu_nil (ρ : LocU) : wipeU ρ [] = ρ := rfl
@[simp] theorem wu_cons (ρ : LocU) (v : Nat) (vs : List Nat) : wipeU ρ (v :: vs) = (wipeU ρ vs).set v none := rfl
@[simp] theorem it_seqT (xs : List U) : itU .seq [.tup xs] = some xs := rfl
@[simp] theorem it_seqL (xs : List U) : itU .seq [.lst xs] = some xs := rfl
@[simp] theorem it_seqF (xs : List U) : itU .seq [.frz xs] = some xs := rfl
theorem iu_rng1 (b : Int) : itU .rng1 [.int b] = if rngB 0 b = true then some (rgU 0 b) else none := rfl
theorem iu_rng2 (a b : Int) : itU .rng2 [.int a, .int b] = if rngB a b = true then some (rgU a b) else none := rfl
@[simp] theorem rev_tup (xs : List U) : revU (.tup xs) = some (.tup xs.reverse) := rfl
@[simp] theorem slc_tupU (xs : List U) (lo hi : Option Int) : slcU (.tup xs) lo hi = some (.tup (cutU xs lo hi)) := rfl
@[simp] theorem slc_lstU (xs : List U) (lo hi : Option Int) : slcU (.lst xs) lo hi = some (.lst (cutU xs lo hi)) := rfl
@[simp] theorem slc_frzU (xs : List U) (lo hi : Option Int) : slcU (.frz xs) lo hi = some (.lst (cutU xs lo hi)) := rfl
@[simp] theorem slot_eq (ρ : LocU) (i : Nat) : slot ρ i = (match ρ[i]? with
    | some (some (.lst xs)) => some xs
    | _ => none) := rfl
end
/-! ### backwards -/
section
variable {α β γ : Type} {Q : α → Ps → Prop} {R' : β → Ps → Prop} {P : Ps}
@[simp] theorem Wu_ok (a : α) : Wu (some (.ok a P)) Q ↔ Q a P := ⟨fun ⟨b, T, e, h⟩ => by cases e; exact h, fun h => ⟨a, P, rfl, h⟩⟩
@[simp] theorem Wu_none : Wu (none : Option (Rv α)) Q ↔ False := ⟨fun ⟨b, T, e, h⟩ => (by cases e), fun h => h.elim⟩
@[simp] theorem Wu_ex (c : Nat) (v : U) : Wu (some (.ex c v P) : Option (Rv α)) Q ↔ False := ⟨fun ⟨b, T, e, h⟩ => (by cases e), fun h => h.elim⟩
@[simp] theorem Wu_bnd (x : Option (Rv α)) (k : α → Ps → Option (Rv β)) : Wu (bndV x k) R' ↔ Wu x fun a P => Wu (k a P) R' := by
  cases x with
  | none => exact ⟨fun ⟨b, T, e, h⟩ => (by cases e), fun ⟨b, T, e, h⟩ => (by cases e)⟩
  | some r =>
    cases r with
    | ok a P => rw [bndV_ok, Wu_ok]
    | ex c v P => exact ⟨fun ⟨b, T, e, h⟩ => (by cases e), fun ⟨b, T, e, h⟩ => (by cases e)⟩
theorem Wu_mono {x : Option (Rv α)} {Q' : α → Ps → Prop} (h : Wu x Q) (k : ∀ a P, Q a P → Q' a P) : Wu x Q' := by
  obtain ⟨a, P, e, h⟩ := h
  exact ⟨a, P, e, k a P h⟩
@[simp] theorem Wu_map (x : Option γ) (f : γ → α) : Wu (x.map fun r => Rv.ok (f r) P) Q ↔ Oo x fun r => Q (f r) P := by
  rw [Oo_ex]
  cases x with
  | none => exact ⟨fun ⟨b, T, e, h⟩ => (by cases e), fun ⟨r, e, h⟩ => (by cases e)⟩
  | some r =>
    show Wu (some (Rv.ok (f r) P)) Q ↔ _
    rw [Wu_ok]
    exact ⟨fun h => ⟨r, rfl, h⟩, fun ⟨q, e, h⟩ => by cases e; exact h⟩
@[simp] theorem Wu_lift {Q : U → Ps → Prop} (x : Option U) : Wu (liftU x P) Q ↔ Oo x fun u => Q u P := Wu_map x id
@[simp] theorem Wu_if {c : Prop} [Decidable c] (x : Option (Rv α)) : Wu (if c then x else none) Q ↔ c ∧ Wu x Q := by
  by_cases h : c
  · rw [if_pos h]; exact ⟨fun z => ⟨h, z⟩, fun z => z.2⟩
  · rw [if_neg h, Wu_none]; exact ⟨fun z => z.elim, fun z => h z.1⟩
theorem Wu_ite {c : Prop} [Decidable c] (x y : Option (Rv α)) : Wu (if c then x else y) Q ↔ if c then Wu x Q else Wu y Q := by split <;> exact Iff.rfl
def IsBU (d : U) (Q : Bool → Prop) : Prop := match d with
  | .bl b => Q b
  | _ => False
@[simp] theorem IsBU_bl (b : Bool) (Q : Bool → Prop) : IsBU (.bl b) Q ↔ Q b := Iff.rfl
@[simp] theorem Wu_tst {Q : Bool → Ps → Prop} (x : Option (Rv U)) : Wu (tstU x) Q ↔ Wu x fun d P => IsBU d fun b => Q b P := by
  unfold tstU
  rw [Wu_bnd]
  constructor
  · refine fun h => Wu_mono h fun d P h => ?_
    cases d <;> first | exact (Wu_none.mp h).elim | exact (Wu_ok _).mp h
  · refine fun h => Wu_mono h fun d P h => ?_
    cases d <;> first | exact h.elim | exact (Wu_ok _).mpr h
@[simp] theorem Wu_noX (x : Option (Rv α)) : Wu (noXU x) Q ↔ Wu x Q := by
  cases x with
  | none => exact Iff.rfl
  | some r =>
    cases r with
    | ok a P => exact Iff.rfl
    | ex c v P => exact ⟨fun ⟨b, T, e, h⟩ => (by cases e), fun ⟨b, T, e, h⟩ => (by cases e)⟩
variable {Qn : LocU → Ps → Prop} {Qr : U → Ps → Prop}
@[simp] theorem Wv_nx (ρ : LocU) : Wv (some (.nx ρ P)) Qn Qr ↔ Qn ρ P := by
  refine ⟨fun h => ?_, fun h => .inl ⟨ρ, P, rfl, h⟩⟩
  rcases h with ⟨a, b, e, h⟩ | ⟨a, b, e, h⟩
  · cases e; exact h
  · cases e
@[simp] theorem Wv_rt (u : U) : Wv (some (.rt u P)) Qn Qr ↔ Qr u P := by
  refine ⟨fun h => ?_, fun h => .inr ⟨u, P, rfl, h⟩⟩
  rcases h with ⟨a, b, e, h⟩ | ⟨a, b, e, h⟩
  · cases e
  · cases e; exact h
@[simp] theorem Wv_none : Wv none Qn Qr ↔ False := by
  refine ⟨fun h => ?_, fun h => h.elim⟩
  rcases h with ⟨a, b, e, h⟩ | ⟨a, b, e, h⟩ <;> cases e
@[simp] theorem Wv_ex (c : Nat) (v : U) : Wv (some (.ex c v P)) Qn Qr ↔ False := by
  refine ⟨fun h => ?_, fun h => h.elim⟩
  rcases h with ⟨a, b, e, h⟩ | ⟨a, b, e, h⟩ <;> cases e
@[simp] theorem Wv_bnd (x : Option (Rv α)) (k : α → Ps → Option OU) : Wv (bndO x k) Qn Qr ↔ Wu x fun a P => Wv (k a P) Qn Qr := by
  cases x with
  | none => exact ⟨fun h => (Wv_none.mp h).elim, fun h => (Wu_none.mp h).elim⟩
  | some r =>
    cases r with
    | ok a P => rw [bndO_ok, Wu_ok]
    | ex c v P => exact ⟨fun h => ((Wv_ex _ _).mp h).elim, fun h => ((Wu_ex _ _).mp h).elim⟩
@[simp] theorem Wv_ite (x : Option (Rv Bool)) (f g : Ps → Option OU) : Wv (iteO x f g) Qn Qr ↔ Wu x fun t P => if t = true then Wv (f P) Qn Qr else Wv (g P) Qn Qr := by
  cases x with
  | none => exact ⟨fun h => (Wv_none.mp h).elim, fun h => (Wu_none.mp h).elim⟩
  | some r =>
    cases r with
    | ok t P => rw [iteO_ok, Wu_ok]; cases t <;> exact Iff.rfl
    | ex c v P => exact ⟨fun h => ((Wv_ex _ _).mp h).elim, fun h => ((Wu_ex _ _).mp h).elim⟩
@[simp] theorem Wv_seq (x : Option OU) (k : LocU → Ps → Option OU) : Wv (seqO' x k) Qn Qr ↔ Wv x (fun ρ P => Wv (k ρ P) Qn Qr) Qr := by
  cases x with
  | none => exact ⟨fun h => (Wv_none.mp h).elim, fun h => (Wv_none.mp h).elim⟩
  | some o =>
    cases o with
    | nx ρ P => rw [Wv_nx]; exact Iff.rfl
    | rt u P => rw [Wv_rt]; exact Wv_rt u
    | ex c v P => exact ⟨fun h => ((Wv_ex _ _).mp h).elim, fun h => ((Wv_ex _ _).mp h).elim⟩
@[simp] theorem Wv_map (x : Option LocU) : Wv (x.map fun ρ1 => .nx ρ1 P) Qn Qr ↔ Oo x fun ρ1 => Qn ρ1 P := by
  rw [Oo_ex]
  cases x with
  | none => exact ⟨fun h => (Wv_none.mp h).elim, fun ⟨r, e, h⟩ => (by cases e)⟩
  | some r =>
    show Wv (some (.nx r P)) Qn Qr ↔ _
    rw [Wv_nx]
    exact ⟨fun h => ⟨r, rfl, h⟩, fun ⟨q, e, h⟩ => by cases e; exact h⟩
@[simp] theorem Wv_bind (x : Option γ) (k : γ → Option OU) : Wv (x.bind k) Qn Qr ↔ Oo x fun a => Wv (k a) Qn Qr := by
  cases x with
  | none => exact ⟨fun h => (Wv_none.mp h).elim, fun h => h.elim⟩
  | some a => exact Iff.rfl
@[simp] theorem Wv_if {c : Prop} [Decidable c] (x : Option OU) : Wv (if c then x else none) Qn Qr ↔ c ∧ Wv x Qn Qr := by
  by_cases h : c
  · rw [if_pos h]; exact ⟨fun z => ⟨h, z⟩, fun z => z.2⟩
  · rw [if_neg h, Wv_none]; exact ⟨fun z => z.elim, fun z => h z.1⟩
theorem Wv_mono {x : Option OU} {Qn' : LocU → Ps → Prop} {Qr' : U → Ps → Prop} (h : Wv x Qn Qr) (k : ∀ ρ P, Qn ρ P → Qn' ρ P) (k' : ∀ d P, Qr d P → Qr' d P) : Wv x Qn' Qr' := by
  rcases h with ⟨a, b, e, h⟩ | ⟨a, b, e, h⟩
  · exact .inl ⟨a, b, e, k _ _ h⟩
  · exact .inr ⟨a, b, e, k' _ _ h⟩
@[simp] theorem Wu_fin {Q : U → Ps → Prop} (x : Option OU) : Wu (finO x) Q ↔ Wv x (fun _ P => Q .non P) Q := by
  cases x with
  | none => exact ⟨fun h => (Wu_none.mp h).elim, fun h => (Wv_none.mp h).elim⟩
  | some o =>
    cases o with
    | nx ρ P => rw [finO_nx, Wu_ok, Wv_nx]
    | rt u P => rw [finO_rt, Wu_ok, Wv_rt]
    | ex c v P => exact ⟨fun h => ((Wu_ex _ _).mp h).elim, fun h => ((Wv_ex _ _).mp h).elim⟩
theorem Wu_call {X : Tx} {n g : Nat} {F : Fd} {us : List U} {Q : U → Ps → Prop} (hg : 2 ≤ g) (hT : X.T g = some F) (hl : us.length = F.np) (h : Wv (exUs X.G X.W (calU X n) F.body (us.map some ++ List.replicate (F.ns - us.length) none) P) (fun _ P => Q .non P) Q) : Wu (calU X (n + 1) g us P) Q := by
  rw [call_eq hg hT hl, Wu_fin]
  exact h
/-- a for loop, by an invariant over what is left -/
theorem Wv_for {t : Tg} {body : LocU → Ps → Option OU} (J : List U → LocU → Ps → Prop) (step : ∀ x xs ρ P, J (x :: xs) ρ P → ∃ ρ1, setU ρ t x = some ρ1 ∧ Wv (body ρ1 P) (fun ρ2 P2 => J xs ρ2 P2) Qr) (hd : ∀ ρ P, J [] ρ P → Qn ρ P) :
    ∀ (xs : List U) (ρ : LocU) (P : Ps), J xs ρ P → Wv (forU t body xs ρ P) Qn Qr
  | [], ρ, P, h => by rw [forU, Wv_nx]; exact hd ρ P h
  | x :: xs, ρ, P, h => by
    obtain ⟨ρ1, e1, h1⟩ := step x xs ρ P h
    rw [forU, e1]
    simp only [Option.bind_some]
    rcases h1 with ⟨ρ2, P2, e, h2⟩ | ⟨d, P2, e, h2⟩
    · rw [e]
      exact Wv_for J step hd xs ρ2 P2 h2
    · rw [e]
      exact .inr ⟨d, P2, rfl, h2⟩
/-- a while loop, by an invariant with a count of the turns that are left -/
theorem Wv_whl {cond : LocU → Ps → Option (Rv Bool)} {body : LocU → Ps → Option OU} (J : Nat → LocU → Ps → Prop) (step : ∀ k ρ P, J k ρ P → Wu (cond ρ P) fun b P1 => if b = true then 0 < k ∧ Wv (body ρ P1) (fun ρ2 P2 => ∃ j, j < k ∧ J j ρ2 P2) Qr else Qn ρ P1) :
    ∀ (n : Nat) (k : Nat) (ρ : LocU) (P : Ps), k < n → J k ρ P → Wv (whlU cond body n ρ P) Qn Qr
  | 0, k, ρ, P, hk, _ => absurd hk (Nat.not_lt_zero k)
  | n + 1, k, ρ, P, hk, h => by
    obtain ⟨b, P1, e, h1⟩ := step k ρ P h
    rw [whlU, e]
    cases b with
    | false =>
      rw [if_neg Bool.false_ne_true] at h1
      exact .inl ⟨ρ, P1, rfl, h1⟩
    | true =>
      rw [if_pos rfl] at h1
      rcases h1.2 with ⟨ρ2, P2, e2, j, hj, h2⟩ | ⟨d, P2, e2, h2⟩
      · simp only [e2]
        exact Wv_whl J step n j ρ2 P2 (by omega) h2
      · simp only [e2]
        exact .inr ⟨d, P2, rfl, h2⟩
/-- a comprehension, by an invariant -/
theorem Wu_comp {cond : U → Ps → Option (Rv Bool)} {elt : U → Ps → Option (Rv U)} {Q : List U → Ps → Prop} (J : List U → List U → Ps → Prop)
    (step : ∀ x xs ds P, J (x :: xs) ds P → Wu (cond x P) fun b P1 => if b = true then Wu (elt x P1) fun d P2 => J xs (ds ++ [d]) P2 else J xs ds P1) :
    ∀ (xs ds : List U) (P : Ps), J xs ds P → (∀ ys P', J [] ys P' → Q ys P') → Wu (compU cond elt xs P) fun ys P' => Q (ds ++ ys) P'
  | [], ds, P, h, hd => by
    rw [compU, Wu_ok, List.append_nil]
    exact hd ds P h
  | x :: xs, ds, P, h, hd => by
    rw [compU, Wu_bnd]
    refine Wu_mono (step x xs ds P h) fun b P1 h1 => ?_
    cases b with
    | true =>
      rw [if_pos rfl] at h1 ⊢
      rw [Wu_bnd]
      refine Wu_mono h1 fun d P2 h2 => ?_
      rw [Wu_bnd]
      refine Wu_mono (Wu_comp J step xs (ds ++ [d]) P2 h2 hd) fun ys P3 h3 => ?_
      rw [Wu_ok]
      simpa using h3
    | false =>
      rw [if_neg Bool.false_ne_true] at h1 ⊢
      exact Wu_comp J step xs ds P1 h1 hd
/-- a comprehension that touches no pot -/
theorem comp_map {cond : U → Ps → Option (Rv Bool)} {elt : U → Ps → Option (Rv U)} {δ : Type} (inj : δ → U) (p : δ → Bool) (f : δ → U) : ∀ (xs : List δ), (∀ b ∈ xs, cond (inj b) P = some (.ok (p b) P)) → (∀ b ∈ xs, p b = true → elt (inj b) P = some (.ok (f b) P)) → compU cond elt (xs.map inj) P = some (.ok ((xs.filter p).map f) P)
  | [], _, _ => rfl
  | x :: xs, hc, he => by
    rw [List.map_cons, compU, hc x List.mem_cons_self, bndV_ok]
    have ih := comp_map inj p f xs (fun b hb => hc b (List.mem_cons_of_mem _ hb)) fun b hb => he b (List.mem_cons_of_mem _ hb)
    cases q : p x with
    | true =>
      rw [if_pos rfl, he x List.mem_cons_self q, bndV_ok, ih, bndV_ok, List.filter_cons_of_pos q]
      rfl
    | false => rw [if_neg Bool.false_ne_true, ih, List.filter_cons_of_neg (by rw [q]; exact Bool.false_ne_true)]
end
section
variable {G : Nat → Option U} {cal : CalU} {ρ : LocU} {P : Ps} {W : Nat} {δ : Type}
/-- a whole comprehension over typed items -/
theorem lc_eq {vs : List Nat} {t : Tg} {k : Ik} {its cs : List E} {elt : E} {ds : List U} {xs : List δ} (inj : δ → U) (p : δ → Bool) (f : δ → U) (h1 : evUs G cal its ρ P = some (.ok ds P)) (h2 : itU k ds = some (xs.map inj))
    (hc : ∀ b ∈ xs, ((setU (wipeU ρ vs) t (inj b)).bind fun ρ' => evTU G cal cs ρ' P) = some (.ok (p b) P)) (he : ∀ b ∈ xs, p b = true → ((setU (wipeU ρ vs) t (inj b)).bind fun ρ' => evU G cal elt ρ' P) = some (.ok (f b) P)) (hl : (xs.filter p).length ≤ sizeLine) :
    evU G cal (.lc vs t k its cs elt) ρ P = some (.ok (.lst ((xs.filter p).map f)) P) := by
  rw [eu_lc, h1, bndV_ok, h2]
  dsimp only
  rw [comp_map inj p f xs hc he, noXU_ok, bndV_ok, if_pos (by rw [List.length_map]; exact hl)]
theorem lc_all {vs : List Nat} {t : Tg} {k : Ik} {its : List E} {elt : E} {ds : List U} {xs : List δ} (inj : δ → U) (f : δ → U) (h1 : evUs G cal its ρ P = some (.ok ds P)) (h2 : itU k ds = some (xs.map inj)) (hs : ∀ b ∈ xs, (setU (wipeU ρ vs) t (inj b)).isSome = true)
    (he : ∀ b ∈ xs, ((setU (wipeU ρ vs) t (inj b)).bind fun ρ' => evU G cal elt ρ' P) = some (.ok (f b) P)) (hl : xs.length ≤ sizeLine) :
    evU G cal (.lc vs t k its [] elt) ρ P = some (.ok (.lst (xs.map f)) P) := by
  have e : xs.filter (fun _ => true) = xs := List.filter_eq_self.mpr fun _ _ => rfl
  have z := lc_eq (G := G) (cal := cal) (ρ := ρ) (P := P) (vs := vs) (t := t) (k := k) (its := its) (cs := []) (elt := elt) inj (fun _ => true) f h1 h2 (fun b hb => by
    cases q : setU (wipeU ρ vs) t (inj b) with
    | none => have := hs b hb; rw [q] at this; cases this
    | some r => simp) (fun b hb _ => he b hb) (by rw [e]; exact hl)
  rw [e] at z
  exact z
end
/-! ### tables -/
abbrev Tab := List (Nat × Fd)
/-- the text holds these defs -/
def Has (X : Tx) (t : Tab) : Prop := ∀ p ∈ t, X.T p.1 = some p.2
theorem Has.at_ {X : Tx} {t : Tab} (h : Has X t) {i g : Nat} {F : Fd} (e : t[i]? = some (g, F)) : X.T g = some F := h _ (List.mem_of_getElem? e)
def nodupB : List Nat → Bool
  | [] => true
  | x :: xs => !xs.contains x && nodupB xs
theorem lookup_of {t : Tab} : ∀ {p : Nat × Fd}, nodupB (t.map (·.1)) = true → p ∈ t → t.lookup p.1 = some p.2 := by
  induction t with
  | nil => intro p _ h; cases h
  | cons q t ih =>
    intro p hn h
    rw [List.map_cons, nodupB, Bool.and_eq_true] at hn
    obtain ⟨a, b⟩ := q
    rcases List.mem_cons.mp h with e | h
    · subst e
      simp [List.lookup]
    · have hne : p.1 ≠ a := fun e => by
        have : a ∈ t.map (·.1) := e ▸ List.mem_map_of_mem h
        have h2 := hn.1
        rw [Bool.not_eq_true'] at h2
        rw [List.contains_iff_mem.mpr this] at h2
        cases h2
      rw [List.lookup_cons]
      have : (p.1 == a) = false := by simpa using hne
      rw [this]
      exact ih hn.2 h
theorem Has.of_lookup {X : Tx} {t big : Tab} (hX : X.T = fun g => big.lookup g) (hn : nodupB (big.map (·.1)) = true) (hs : ∀ p ∈ t, p ∈ big) : Has X t := fun p hp => by rw [hX]; exact lookup_of hn (hs p hp)
end Pv

end
section
set_option Elab.async false
set_option linter.all false
set_option maxRecDepth 100000
set_option maxHeartbeats 1000000
/-! Values: equality, repr, kinds, pots. -/
namespace Pv
open PySem L2 Mi
/-! ### as data, there and back -/
theorem toP_int_inv {u : U} {i : Int} (h : u.toP = .int i) : u = .int i := by
  cases u <;> simp [U.toP] at h <;> simp [h]
theorem toP_str_inv {u : U} {i : Str} (h : u.toP = .str i) : u = .str i := by
  cases u <;> simp [U.toP] at h <;> simp [h]
theorem toP_bl_inv {u : U} {i : Bool} (h : u.toP = .bool i) : u = .bl i := by
  cases u <;> simp [U.toP] at h <;> simp [h]
theorem toP_tup_inv {u : U} {ps : List PyData} (h : u.toP = .tuple ps) : ∃ us, u = .tup us ∧ U.toPs us = ps := by
  cases u <;> simp [U.toP] at h
  exact ⟨_, rfl, h⟩
theorem toPs_nil_inv {us : List U} (h : U.toPs us = []) : us = [] := by
  cases us <;> simp [U.toPs] at h <;> rfl
theorem toPs_cons_inv {us : List U} {p : PyData} {ps : List PyData} (h : U.toPs us = p :: ps) : ∃ v vs, us = v :: vs ∧ v.toP = p ∧ U.toPs vs = ps := by
  cases us with
  | nil => simp [U.toPs] at h
  | cons v vs =>
    rw [U.toPs] at h
    cases h
    exact ⟨v, vs, rfl, rfl, rfl⟩
theorem toPs_map' : ∀ us : List U, U.toPs us = us.map U.toP
  | [] => by rw [U.toPs]; rfl
  | u :: us => by rw [U.toPs, toPs_map' us]; rfl
/-! ### plain values: ints, texts, None, tuples and lists of them -/
def plainU : Nat → U → Bool
  | _, .non => true
  | _, .int _ => true
  | _, .str x => PyData.canLay0 (.str x)
  | n + 1, .tup xs => xs.all (plainU n)
  | n + 1, .lst xs => xs.all (plainU n)
  | _, _ => false
mutual
theorem plain_inj : ∀ (x y : U) (n m : Nat), plainU n x = true → plainU m y = true → (x.toP = y.toP → x = y)
  | .non, y, n, m, hx, hy, h => by
    cases y with
    | pot k => cases m <;> simp [plainU] at hy
    | non => rfl
    | _ => simp [U.toP] at h
  | .int i, y, n, m, hx, hy, h => by rw [U.toP] at h; exact (toP_int_inv h.symm).symm
  | .str i, y, n, m, hx, hy, h => by rw [U.toP] at h; exact (toP_str_inv h.symm).symm
  | .tup xs, y, n, m, hx, hy, h => by
    rw [U.toP] at h
    obtain ⟨us, rfl, e⟩ := toP_tup_inv h.symm
    cases n with
    | zero => simp [plainU] at hx
    | succ n =>
      cases m with
      | zero => simp [plainU] at hy
      | succ m =>
        rw [plainU] at hx hy
        rw [plains_inj xs us n m hx hy e.symm]
  | .lst xs, y, n, m, hx, hy, h => by
    rw [U.toP] at h
    cases n with
    | zero => simp [plainU] at hx
    | succ n =>
      rw [plainU] at hx
      cases y with
      | lst us =>
        cases m with
        | zero => simp [plainU] at hy
        | succ m =>
          rw [plainU] at hy
          rw [U.toP] at h
          injection h with h
          rw [plains_inj xs us n m hx hy h]
      | frz us => cases m <;> simp [plainU] at hy
      | _ => simp [U.toP] at h
  | .bl b, y, n, m, hx, hy, h => by cases n <;> simp [plainU] at hx
  | .frz b, y, n, m, hx, hy, h => by cases n <;> simp [plainU] at hx
  | .dct b c, y, n, m, hx, hy, h => by cases n <;> simp [plainU] at hx
  | .pot b, y, n, m, hx, hy, h => by cases n <;> simp [plainU] at hx
theorem plains_inj : ∀ (xs ys : List U) (n m : Nat), xs.all (plainU n) = true → ys.all (plainU m) = true → (U.toPs xs = U.toPs ys → xs = ys)
  | [], ys, n, m, hx, hy, h => by rw [U.toPs] at h; exact (toPs_nil_inv h.symm).symm
  | x :: xs, ys, n, m, hx, hy, h => by
    rw [U.toPs] at h
    obtain ⟨v, vs, rfl, e1, e2⟩ := toPs_cons_inv h.symm
    rw [List.all_cons, Bool.and_eq_true] at hx hy
    rw [plain_inj x v n m hx.1 hy.1 e1.symm, plains_inj xs vs n m hx.2 hy.2 e2.symm]
end
mutual
theorem plain_ok : ∀ (x : U) (n : Nat), plainU n x = true → x.rd ≤ n ∧ x.toP.canLay0 = true ∧ x.toP.depth ≤ n + 1
  | .non, n, h => ⟨by rw [U.rd]; omega, by rw [U.toP]; rfl, by rw [U.toP, PyData.depth]; omega⟩
  | .int i, n, h => ⟨by rw [U.rd]; omega, by rw [U.toP]; rfl, by rw [U.toP, PyData.depth]; omega⟩
  | .str i, n, h => ⟨by rw [U.rd]; omega, by rw [U.toP]; cases n <;> exact h, by rw [U.toP, PyData.depth]; omega⟩
  | .tup xs, n, h => by
    cases n with
    | zero => simp [plainU] at h
    | succ n =>
      rw [plainU] at h
      obtain ⟨a, b, c⟩ := plains_ok xs n h
      exact ⟨by rw [U.rd]; omega, by rw [U.toP, PyData.canLay0]; exact b, by rw [U.toP, PyData.depth]; omega⟩
  | .lst xs, n, h => by
    cases n with
    | zero => simp [plainU] at h
    | succ n =>
      rw [plainU] at h
      obtain ⟨a, b, c⟩ := plains_ok xs n h
      exact ⟨by rw [U.rd]; omega, by rw [U.toP, PyData.canLay0]; exact b, by rw [U.toP, PyData.depth]; omega⟩
  | .bl b, n, h => by cases n <;> simp [plainU] at h
  | .frz b, n, h => by cases n <;> simp [plainU] at h
  | .dct b c, n, h => by cases n <;> simp [plainU] at h
  | .pot b, n, h => by cases n <;> simp [plainU] at h
theorem plains_ok : ∀ (xs : List U) (n : Nat), xs.all (plainU n) = true → U.rds xs ≤ n ∧ PyData.canLayAll0 (U.toPs xs) = true ∧ PyData.depthAll (U.toPs xs) ≤ n + 1
  | [], n, _ => ⟨by rw [U.rds]; omega, by rw [U.toPs]; rfl, by rw [U.toPs, PyData.depthAll]; omega⟩
  | x :: xs, n, h => by
    rw [List.all_cons, Bool.and_eq_true] at h
    obtain ⟨a, b, c⟩ := plain_ok x n h.1
    obtain ⟨d, e, f⟩ := plains_ok xs n h.2
    refine ⟨by rw [U.rds]; omega, by rw [U.toPs, PyData.canLayAll0, b, e]; rfl, ?_⟩
    rw [U.toPs, PyData.depthAll]
    omega
end
/-- without True and False == is being the same -/
def noB : PyData → Bool
  | .bool _ => false
  | .dict _ => false
  | _ => true
mutual
theorem eqv_same : ∀ (x y : U) (n m : Nat), plainU n x = true → plainU m y = true → PyData.eqv x.toP y.toP = true → x.toP = y.toP
  | .non, y, n, m, hx, hy, h => by
    cases y with
    | bl b => cases m <;> simp [plainU] at hy
    | _ => simp [U.toP, PyData.eqv] at h ⊢ <;> rfl
  | .int i, y, n, m, hx, hy, h => by
    cases y with
    | bl b => cases m <;> simp [plainU] at hy
    | _ => simp [U.toP, PyData.eqv] at h ⊢ <;> exact h
  | .str i, y, n, m, hx, hy, h => by
    cases y with
    | bl b => cases m <;> simp [plainU] at hy
    | _ => simp [U.toP, PyData.eqv] at h ⊢ <;> exact h
  | .tup xs, y, n, m, hx, hy, h => by
    cases y with
    | bl b => cases m <;> simp [plainU] at hy
    | tup ys =>
      rw [U.toP, U.toP, PyData.eqv] at h
      cases n with
      | zero => simp [plainU] at hx
      | succ n =>
        cases m with
        | zero => simp [plainU] at hy
        | succ m =>
          rw [plainU] at hx hy
          rw [U.toP, U.toP, eqvs_same xs ys n m hx hy h]
    | _ => simp [U.toP, PyData.eqv] at h
  | .lst xs, y, n, m, hx, hy, h => by
    cases y with
    | bl b => cases m <;> simp [plainU] at hy
    | frz b => cases m <;> simp [plainU] at hy
    | lst ys =>
      rw [U.toP, U.toP, PyData.eqv] at h
      cases n with
      | zero => simp [plainU] at hx
      | succ n =>
        cases m with
        | zero => simp [plainU] at hy
        | succ m =>
          rw [plainU] at hx hy
          rw [U.toP, U.toP, eqvs_same xs ys n m hx hy h]
    | _ => simp [U.toP, PyData.eqv] at h
  | .bl b, y, n, m, hx, hy, h => by cases n <;> simp [plainU] at hx
  | .frz b, y, n, m, hx, hy, h => by cases n <;> simp [plainU] at hx
  | .dct b c, y, n, m, hx, hy, h => by cases n <;> simp [plainU] at hx
  | .pot b, y, n, m, hx, hy, h => by cases n <;> simp [plainU] at hx
theorem eqvs_same : ∀ (xs ys : List U) (n m : Nat), xs.all (plainU n) = true → ys.all (plainU m) = true → PyData.eqvAll (U.toPs xs) (U.toPs ys) = true → U.toPs xs = U.toPs ys
  | [], [], n, m, hx, hy, h => rfl
  | [], y :: ys, n, m, hx, hy, h => by rw [U.toPs, U.toPs] at h; cases h
  | x :: xs, [], n, m, hx, hy, h => by rw [U.toPs, U.toPs] at h; cases h
  | x :: xs, y :: ys, n, m, hx, hy, h => by
    rw [U.toPs, U.toPs, PyData.eqvAll, Bool.and_eq_true] at h
    rw [List.all_cons, Bool.and_eq_true] at hx hy
    rw [U.toPs, U.toPs, eqv_same x y n m hx.1 hy.1 h.1, eqvs_same xs ys n m hx.2 hy.2 h.2]
end
mutual
theorem eqv_refl : ∀ (x : U) (n : Nat), plainU n x = true → PyData.eqv x.toP x.toP = true
  | .non, n, h => by simp [U.toP, PyData.eqv]
  | .int i, n, h => by simp [U.toP, PyData.eqv]
  | .str i, n, h => by simp [U.toP, PyData.eqv]
  | .tup xs, n, h => by
    cases n with
    | zero => simp [plainU] at h
    | succ n => rw [plainU] at h; rw [U.toP, PyData.eqv]; exact eqvs_refl xs n h
  | .lst xs, n, h => by
    cases n with
    | zero => simp [plainU] at h
    | succ n => rw [plainU] at h; rw [U.toP, PyData.eqv]; exact eqvs_refl xs n h
  | .bl b, n, h => by cases n <;> simp [plainU] at h
  | .frz b, n, h => by cases n <;> simp [plainU] at h
  | .dct b c, n, h => by cases n <;> simp [plainU] at h
  | .pot b, n, h => by cases n <;> simp [plainU] at h
theorem eqvs_refl : ∀ (xs : List U) (n : Nat), xs.all (plainU n) = true → PyData.eqvAll (U.toPs xs) (U.toPs xs) = true
  | [], n, h => by rw [U.toPs]; rfl
  | x :: xs, n, h => by
    rw [List.all_cons, Bool.and_eq_true] at h
    rw [U.toPs, PyData.eqvAll, eqv_refl x n h.1, eqvs_refl xs n h.2]
    rfl
end
mutual
def U.beq : U → U → Bool
  | .non, .non => true
  | .bl a, .bl b => a == b
  | .int i, .int j => i == j
  | .str x, .str y => decide (x = y)
  | .tup xs, .tup ys => U.beqs xs ys
  | .lst xs, .lst ys => U.beqs xs ys
  | .frz xs, .frz ys => U.beqs xs ys
  | .dct xs vs, .dct ys ws => U.beqs xs ys && U.beqs vs ws
  | .pot n, .pot k => n == k
  | _, _ => false
def U.beqs : List U → List U → Bool
  | [], [] => true
  | x :: xs, y :: ys => U.beq x y && U.beqs xs ys
  | _, _ => false
end
mutual
theorem U.beq_eq : ∀ x y : U, U.beq x y = true → x = y := by
  intro x y h
  cases x <;> cases y <;> simp [U.beq] at h <;> try (first | rfl | (subst h; rfl))
  · exact congrArg U.tup (U.beqs_eq _ _ h)
  · exact congrArg U.lst (U.beqs_eq _ _ h)
  · exact congrArg U.frz (U.beqs_eq _ _ h)
  · rw [U.beqs_eq _ _ h.1, U.beqs_eq _ _ h.2]
theorem U.beqs_eq : ∀ xs ys : List U, U.beqs xs ys = true → xs = ys
  | [], [], _ => rfl
  | x :: xs, y :: ys, h => by
    simp [U.beqs] at h
    rw [U.beq_eq x y h.1, U.beqs_eq xs ys h.2]
  | [], _ :: _, h => by simp [U.beqs] at h
  | _ :: _, [], h => by simp [U.beqs] at h
end
mutual
theorem U.beq_refl : ∀ x : U, U.beq x x = true
  | .non => rfl
  | .bl a => by simp [U.beq]
  | .int i => by simp [U.beq]
  | .str x => by simp [U.beq]
  | .tup xs => by simp [U.beq, U.beqs_refl xs]
  | .lst xs => by simp [U.beq, U.beqs_refl xs]
  | .frz xs => by simp [U.beq, U.beqs_refl xs]
  | .dct xs ys => by simp [U.beq, U.beqs_refl xs, U.beqs_refl ys]
  | .pot n => by simp [U.beq]
theorem U.beqs_refl : ∀ xs : List U, U.beqs xs xs = true
  | [] => rfl
  | x :: xs => by simp [U.beqs, U.beq_refl x, U.beqs_refl xs]
end
instance : DecidableEq U := fun x y => if h : U.beq x y = true then isTrue (U.beq_eq x y h) else isFalse fun e => h (e ▸ U.beq_refl x)
theorem eqU_plain {x y : U} (hx : plainU 8 x = true) (hy : plainU 8 y = true) : eqU x y = some (decide (x = y)) := by
  by_cases hs : ∃ a b, x = .str a ∧ y = .str b
  · obtain ⟨a, b, rfl, rfl⟩ := hs
    show some (decide (a = b)) = _
    simp
  · obtain ⟨a1, a2, a3⟩ := plain_ok x 8 hx
    obtain ⟨b1, b2, b3⟩ := plain_ok y 8 hy
    rw [eq0 ⟨a1, b1, ?_⟩ (fun a b e1 e2 => hs ⟨a, b, e1, e2⟩)]
    · congr 1
      rw [Bool.eq_iff_iff, decide_eq_true_eq]
      constructor
      · intro h
        exact plain_inj x y 8 8 hx hy (eqv_same x y 8 8 hx hy h)
      · rintro rfl
        exact eqv_refl x 8 hx
    · unfold SeqAt.shaped
      rw [a2, b2, decide_eq_true (by omega), decide_eq_true (by omega)]
      rfl
theorem cu_eq {x y : U} (hx : plainU 8 x = true) (hy : plainU 8 y = true) : cmpU .eq x y = some (decide (x = y)) := eqU_plain hx hy
theorem cu_ne {x y : U} (hx : plainU 8 x = true) (hy : plainU 8 y = true) : cmpU .ne x y = some (!decide (x = y)) := by
  show (eqU x y).map (fun b => !b) = _
  rw [eqU_plain hx hy]
  rfl
/-! ### repr -/
/-- what repr shows: plain texts, no great ints, not deep, not long -/
structure Gd (n : Nat) (u : U) : Prop where
  w : wt u.toP < n * 1000
  d : u.toP.depth ≤ n
  r : u.rd ≤ n
instance (n : Nat) (u : U) : Decidable (Gd n u) := decidable_of_iff (wt u.toP < n * 1000 ∧ u.toP.depth ≤ n ∧ u.rd ≤ n) ⟨fun h => ⟨h.1, h.2.1, h.2.2⟩, fun h => ⟨h.w, h.d, h.r⟩⟩
theorem Gd.mono {n m : Nat} {u : U} (h : Gd n u) (hm : n ≤ m) : Gd m u := ⟨by have := h.w; omega, Nat.le_trans h.d hm, Nat.le_trans h.r hm⟩
/-- repr shows it -/
structure Rp (u : U) : Prop where
  n : Nice u.toP
  r : u.rd ≤ 8
theorem Gd.rp {u : U} (h : Gd 8 u) : Rp u := ⟨⟨by have := h.w; omega, Nat.le_trans h.d (by omega)⟩, h.r⟩
theorem Rp.repr {u : U} (h : Rp u) : reprU u = some u.toP.shown := by
  obtain ⟨⟨h1, h2⟩, h3⟩ := h
  obtain ⟨a1, a2, a3⟩ := wt_ok u.toP (Nat.lt_of_lt_of_le h1 (by decide))
  have hl : u.toP.shown.length ≤ sizeLine := by
    have e : u.toP.shown.length = (sh u.toP).length := by unfold sh TL.tl Str.length; simp
    rw [e]
    exact Nat.le_trans a3 (Nat.le_trans (Nat.le_of_lt h1) line_big)
  unfold reprU
  rw [if_pos ⟨h3, a2, h2, hl⟩]
theorem Rp.inj {u v : U} (hu : Rp u) (hv : Rp v) : u.toP.shown = v.toP.shown ↔ u.toP = v.toP := nice_inj hu.n hv.n
theorem rp_bl (b : Bool) : Rp (.bl b) := by cases b <;> exact ⟨by rw [U.toP]; decide +kernel, by rw [U.rd]; omega⟩
theorem rp_non : Rp .non := ⟨by rw [U.toP]; decide +kernel, by rw [U.rd]; omega⟩
theorem gd_int {n : Nat} {i : Int} (h : i.natAbs < 10 ^ 60) (hn : 1 ≤ n) : Gd n (.int i) := ⟨by rw [U.toP, wt, if_pos h]; omega, by rw [U.toP, PyData.depth]; omega, by rw [U.rd]; omega⟩
@[simp] theorem repr_b (b : Bool) : reprU (.bl b) = some (PyData.bool b).shown := by rw [(rp_bl b).repr, U.toP]
/-! ### kinds -/
def isIntU : U → Bool
  | .int _ => true
  | _ => false
def isBlU : U → Bool
  | .bl _ => true
  | _ => false
def isStrU : U → Bool
  | .str _ => true
  | _ => false
def isTupU : U → Bool
  | .tup _ => true
  | _ => false
def isLstU : U → Bool
  | .lst _ => true
  | .frz _ => true
  | _ => false
def isPotU : U → Bool
  | .pot _ => true
  | _ => false
section
variable {u : U} (h : isPotU u = false)
include h
theorem is_int : isiU "int" u = some (isIntU u || isBlU u) := by
  cases u <;> first | (cases h; done) | (unfold isiU; simp only [tyU, Option.bind_some]; rw [kit_int _ (by decide)]; rfl)
theorem is_bool : isiU "bool" u = some (isBlU u) := by
  cases u <;> first | (cases h; done) | (unfold isiU; simp only [tyU, Option.bind_some]; rw [kit_bool _ (by decide)]; rfl)
theorem is_str : isiU "str" u = some (isStrU u) := by
  cases u <;> first | (cases h; done) | (unfold isiU; simp only [tyU, Option.bind_some]; rw [kit_str _ (by decide)]; rfl)
theorem is_tup : isiU "tuple" u = some (isTupU u) := by
  cases u <;> first | (cases h; done) | (unfold isiU; simp only [tyU, Option.bind_some]; rw [kit_tup _ (by decide)]; rfl)
theorem is_list : isiU "list" u = some (isLstU u) := by
  cases u <;> first | (cases h; done) | (unfold isiU; simp only [tyU, Option.bind_some]; rw [kit_list _ (by decide)]; rfl)
end
theorem Gd.np {n : Nat} {u : U} (h : Gd n u) (hn : n < 100) : isPotU u = false := by
  cases u with
  | pot k => have := h.r; rw [U.rd] at this; omega
  | _ => rfl
/-! ### flat members -/
theorem inU_int (x : Int) (ys : List Int) : inU (.int x) (ys.map U.int) = some (decide (x ∈ ys)) := by
  unfold inU
  have e : (flatU (.int x) && (ys.map U.int).all flatU) = true := by simp [flatU]
  rw [if_pos e]
  congr 1
  unfold inV
  rw [List.any_map, List.any_map, Bool.eq_iff_iff, List.any_eq_true, decide_eq_true_eq]
  constructor
  · rintro ⟨y, hy, e⟩
    have e : (y == x) = true := e
    rw [← eq_of_beq e]
    exact hy
  · intro h
    exact ⟨x, h, (beq_self_eq_true x : (x == x) = true)⟩
theorem inU_str (x : Str) (ys : List Str) : inU (.str x) (ys.map U.str) = some (decide (x ∈ ys)) := by
  unfold inU
  have e : (flatU (.str x) && (ys.map U.str).all flatU) = true := by simp [flatU]
  rw [if_pos e]
  congr 1
  unfold inV
  rw [List.any_map, List.any_map, Bool.eq_iff_iff, List.any_eq_true, decide_eq_true_eq]
  constructor
  · rintro ⟨y, hy, e⟩
    have e : decide (y = x) = true := e
    rw [← of_decide_eq_true e]
    exact hy
  · intro h
    exact ⟨x, h, decide_eq_true rfl⟩
theorem blsU_map : ∀ bs : List Bool, blsU (bs.map U.bl) = some bs
  | [] => rfl
  | b :: bs => by
    show (blsU (bs.map U.bl)).map (fun js => b :: js) = _
    rw [blsU_map bs]
    rfl
theorem intsU_map : ∀ is : List Int, intsU (is.map U.int) = some is
  | [] => rfl
  | i :: is => by
    show (intsU (is.map U.int)).map (fun js => i :: js) = _
    rw [intsU_map is]
    rfl
theorem rgU_map (a b : Int) : rgU a b = ((List.range (b - a).toNat).map fun (i : Nat) => a + (i : Int)).map U.int := by
  unfold rgU
  rw [List.map_map]
  rfl
theorem atU {xs : List U} {v : Int} (h0 : 0 ≤ v) (h1 : v < xs.length) : ∃ x, L2.atI xs v = some x ∧ x ∈ xs := by
  have hv : v.toNat < xs.length := by omega
  refine ⟨xs[v.toNat], ?_, List.getElem_mem hv⟩
  unfold L2.atI ixN
  rw [if_pos h0, if_pos h1]
  show xs[v.toNat]? = _
  exact List.getElem?_eq_getElem hv
end Pv
namespace Pv
open PySem L2 Mi
/-! ### members -/
theorem eqv_plain {x y : U} {n m : Nat} (hx : plainU n x = true) (hy : plainU m y = true) : PyData.eqv x.toP y.toP = decide (x = y) := by
  rw [Bool.eq_iff_iff, decide_eq_true_eq]
  constructor
  · intro h
    exact plain_inj x y n m hx hy (eqv_same x y n m hx hy h)
  · rintro rfl
    exact eqv_refl x n hx
theorem flat_plain {x : U} {n : Nat} (f : flatU x = true) (h : plainU n x = true) : x = .non ∨ (∃ i, x = .int i) ∨ ∃ z, x = .str z := by
  cases x with
  | non => exact .inl rfl
  | int i => exact .inr (.inl ⟨i, rfl⟩)
  | str z => exact .inr (.inr ⟨z, rfl⟩)
  | bl b => cases n <;> simp [plainU] at h
  | _ => cases f
theorem eqV_flat {x y : U} {n m : Nat} (fx : flatU x = true) (fy : flatU y = true) (hx : plainU n x = true) (hy : plainU m y = true) : eqV (fU y) (fU x) = decide (y = x) := by
  rcases flat_plain fx hx with rfl | ⟨i, rfl⟩ | ⟨z, rfl⟩ <;> rcases flat_plain fy hy with rfl | ⟨j, rfl⟩ | ⟨w, rfl⟩
  · rfl
  · rfl
  · rfl
  · rfl
  · show (j == i) = _
    rw [Bool.eq_iff_iff]
    simp
  · rfl
  · rfl
  · rfl
  · show (w == z) = _
    rw [Bool.eq_iff_iff]
    simp only [beq_iff_eq, decide_eq_true_eq, U.str.injEq]
theorem inSU_plain {x : U} {ys : List U} (hx : plainU 7 x = true) (hy : ys.all (plainU 7) = true) : inSU x (.tup ys) = some (decide (x ∈ ys)) ∧ inSU x (.lst ys) = some (decide (x ∈ ys)) := by
  have key : ∀ (w : U), seqU w = some ys → (w.toP = .tuple (U.toPs ys) ∨ w.toP = .list (U.toPs ys)) → w.rd ≤ 8 → inSU x w = some (decide (x ∈ ys)) := fun w e0 ew hr => by
    have em : ∀ l : List U, l.all (plainU 7) = true → (U.toPs l).any (fun z => PyData.eqv z x.toP) = decide (x ∈ l) := fun l => by
      induction l with
      | nil => intro _; rw [U.toPs]; simp
      | cons a l ih =>
        intro hl
        rw [List.all_cons, Bool.and_eq_true] at hl
        rw [U.toPs, List.any_cons, ih hl.2, eqv_plain hl.1 hx, Bool.eq_iff_iff]
        rw [Bool.or_eq_true, decide_eq_true_eq, decide_eq_true_eq, decide_eq_true_eq, List.mem_cons]
        exact ⟨fun h => h.imp Eq.symm id, fun h => h.imp Eq.symm id⟩
    unfold inSU
    rw [e0]
    show (match inU x ys with | some b => some b | none => inDeepU x w) = _
    by_cases hf : (flatU x && ys.all flatU) = true
    · have e1 : inU x ys = some (decide (x ∈ ys)) := by
        unfold inU
        rw [if_pos hf]
        congr 1
        rw [Bool.and_eq_true] at hf
        unfold inV
        rw [List.any_map, Bool.eq_iff_iff, List.any_eq_true, decide_eq_true_eq]
        have ha := List.all_eq_true.mp hf.2
        have hb := List.all_eq_true.mp hy
        constructor
        · rintro ⟨z, hz, e⟩
          have e : eqV (fU z) (fU x) = true := e
          rw [eqV_flat hf.1 (ha z hz) hx (hb z hz), decide_eq_true_eq] at e
          rw [← e]
          exact hz
        · intro h
          refine ⟨x, h, ?_⟩
          show eqV (fU x) (fU x) = true
          rw [eqV_flat hf.1 hf.1 hx hx]
          exact decide_eq_true rfl
      rw [e1]
    · have e1 : inU x ys = none := by unfold inU; rw [if_neg hf]
      rw [e1]
      obtain ⟨a1, a2, a3⟩ := plain_ok x 7 hx
      obtain ⟨b1, b2, b3⟩ := plains_ok ys 7 hy
      have cnd : (x.toP.canLay0 && (PyData.canLayAll0 (U.toPs ys) && decide (x.toP.depth ≤ 60))) = true := by
        rw [a2, b2, decide_eq_true (by omega)]
        rfl
      show inDeepU x w = _
      unfold inDeepU
      rw [if_pos ⟨by omega, hr⟩]
      rcases ew with ew | ew
      · rw [ew]
        show (if (x.toP.canLay0 && (PyData.canLayAll0 (U.toPs ys) && decide (x.toP.depth ≤ 60))) = true then some ((U.toPs ys).any fun z => PyData.eqv z x.toP) else none) = _
        rw [if_pos cnd, em ys hy]
      · rw [ew]
        show (if (x.toP.canLay0 && (PyData.canLayAll0 (U.toPs ys) && decide (x.toP.depth ≤ 60))) = true then some ((U.toPs ys).any fun z => PyData.eqv z x.toP) else none) = _
        rw [if_pos cnd, em ys hy]
  obtain ⟨b1, b2, b3⟩ := plains_ok ys 7 hy
  exact ⟨key _ rfl (.inl (by rw [U.toP])) (by rw [U.rd]; omega), key _ rfl (.inr (by rw [U.toP])) (by rw [U.rd]; omega)⟩
theorem cu_in {x : U} {ys : List U} (hx : plainU 7 x = true) (hy : ys.all (plainU 7) = true) : cmpU .isIn x (.tup ys) = some (decide (x ∈ ys)) ∧ cmpU .isIn x (.lst ys) = some (decide (x ∈ ys)) ∧ cmpU .notIn x (.tup ys) = some (!decide (x ∈ ys)) ∧ cmpU .notIn x (.lst ys) = some (!decide (x ∈ ys)) := by
  obtain ⟨a, b⟩ := inSU_plain hx hy
  refine ⟨a, b, ?_, ?_⟩
  · show (inSU x (.tup ys)).map (fun b => !b) = _
    rw [a]
    rfl
  · show (inSU x (.lst ys)).map (fun b => !b) = _
    rw [b]
    rfl
theorem cu_inS {x : Str} {ys : List Str} : cmpU .isIn (.str x) (.lst (ys.map U.str)) = some (decide (x ∈ ys)) ∧ cmpU .notIn (.str x) (.lst (ys.map U.str)) = some (!decide (x ∈ ys)) := by
  have a : inSU (.str x) (.lst (ys.map U.str)) = some (decide (x ∈ ys)) := by
    unfold inSU
    show (match inU (.str x) (ys.map U.str) with | some b => some b | none => inDeepU (.str x) (.lst (ys.map U.str))) = _
    rw [inU_str]
  refine ⟨a, ?_⟩
  show (inSU (.str x) (.lst (ys.map U.str))).map (fun b => !b) = _
  rw [a]
  rfl
end Pv

end
section
set_option Elab.async false
set_option linter.all false
set_option maxRecDepth 100000
namespace Pr
open PySem L2 Mi Pv
def b__law_of : List Sm := [.ret (.ix (.var 1) (.call 0 [.var 0, .bi .len [.var 1]]))]
def f__law_of : Fd := ⟨"_law_of", 2, 2, b__law_of⟩
def b__law_cells : List Sm := [.ret (.bi .rng1 [.bi .max2 [.lit (.int 1), .bi .min2 [.var 1, .bi .len [.var 0]]]])]
def f__law_cells : Fd := ⟨"_law_cells", 2, 2, b__law_cells⟩
-- not in the small language yet: _law_some
def b__law_some : List Sm := [.never]
def f__law_some : Fd := ⟨"_law_some", 3, 6, b__law_some⟩
-- not in the small language yet: _law_caught
def b__law_caught : List Sm := [.never]
def f__law_caught : Fd := ⟨"_law_caught", 1, 1, b__law_caught⟩
def e__law_mill_1 : E := .lc [7] (.one 7) .rng1 [.op .add (.var 2) (.lit (.int 1))] [] (.bi .int [.ite (.or [.cmp .gt (.var 8) (.lit (.int 0)), .cmp .eq (.call 0 [.var 0, .lit (.int 2)]) (.lit (.int 0))]) (.call 0 [.var 0, .lit (.int 3)]) (.lit (.int 0))])
def e__law_mill_2 : E := .lc [8] (.one 8) .rng1 [.op .add (.lit (.int 1)) (.call 0 [.var 0, .var 3])] [] (.bi .tuple [e__law_mill_1])
def e__law_mill_3 : E := .lc [10] (.one 10) .rng1 [.op .add (.lit (.int 1)) (.call 0 [.var 0, .var 4])] [] (.bi .int [.call 0 [.var 0, .lit (.int 3)]])
def e__law_mill_4 : E := .lc [10] (.one 10) .rng1 [.op .add (.lit (.int 1)) (.call 0 [.var 0, .var 5])] [] (.bi .int [.call 0 [.var 0, .lit (.int 3)]])
def b__law_mill : List Sm := [.asg (.tup [1, 2]) (.tup [.op .add (.lit (.int 1)) (.call 0 [.var 0, .var 1]), .op .add (.lit (.int 1)) (.call 0 [.var 0, .var 2])]), .asg (.one 6) (.bi .tuple [e__law_mill_2]), .asg (.one 9) (.bi .tuple [e__law_mill_3]), .asg (.one 11) (.bi .tuple [e__law_mill_4]), .asg (.one 12) (.call 0 [.var 0, .op .add (.var 1) (.lit (.int 1))]), .asg (.one 13) (.tup [.bi .int [.var 12], .bi .int [.op .add (.var 12) (.call 0 [.var 0, .op .sub (.op .add (.var 1) (.lit (.int 1))) (.var 12)])]]), .ret (.tup [.bi .int [.var 1], .tup [.bi .int [.var 2], .bi .int [.call 0 [.var 0, .op .add (.var 2) (.lit (.int 1))]]], .tup [.var 6, .var 9, .var 11], .var 13, .bi .int [.call 46 [.var 0, .lst [.lit (.int 0), .lit (.int 1), .lit (.int 1), .lit (.int 2), .lit (.int 3), .lit (.int 7)]]]])]
def f__law_mill : Fd := ⟨"_law_mill", 6, 14, b__law_mill⟩
def e__law_trims_1 : E := .lc [7] (.one 7) .rng1 [.bi .len [.var 3]] [] (.tup [.bi .int [.var 5], .bi .int [.var 6], .bi .int [.var 7]])
def l__law_trims_1 : List Sm := [.expr (.ext (.var 4) (e__law_trims_1))]
def s__law_trims_1 : Sm := .for_ (.one 6) .rng1 [.bi .len [.var 2]] l__law_trims_1
def l__law_trims_2 : List Sm := [s__law_trims_1]
def s__law_trims_2 : Sm := .for_ (.one 5) .rng1 [.bi .len [.var 1]] l__law_trims_2
def b__law_trims : List Sm := [.asg (.tup [1, 2, 3]) (.ix (.var 0) (.lit (.int 2))), .asg (.one 4) (.lst []), s__law_trims_2, .ret (.var 4)]
def f__law_trims : Fd := ⟨"_law_trims", 1, 8, b__law_trims⟩
def e__law_states_1 : E := .lc [4] (.one 4) .seq [.call 58 [.var 0]] [] (.tup [.bi .int [.var 2], .bi .int [.var 3], .var 4])
def l__law_states_1 : List Sm := [.expr (.ext (.var 1) (e__law_states_1))]
def s__law_states_1 : Sm := .for_ (.one 3) .rng1 [.op .add (.ix (.ix (.var 0) (.lit (.int 1))) (.lit (.int 0))) (.lit (.int 1))] l__law_states_1
def l__law_states_2 : List Sm := [s__law_states_1]
def s__law_states_2 : Sm := .for_ (.one 2) .rng1 [.op .add (.ix (.var 0) (.lit (.int 0))) (.lit (.int 1))] l__law_states_2
def b__law_states : List Sm := [.asg (.one 1) (.lst []), s__law_states_2, .ret (.var 1)]
def f__law_states : Fd := ⟨"_law_states", 1, 5, b__law_states⟩
-- not in the small language yet: _law_own
def b__law_own : List Sm := [.never]
def f__law_own : Fd := ⟨"_law_own", 3, 7, b__law_own⟩
-- not in the small language yet: _law_setting
def b__law_setting : List Sm := [.never]
def f__law_setting : Fd := ⟨"_law_setting", 2, 4, b__law_setting⟩
-- not in the small language yet: _law_text
def b__law_text : List Sm := [.never]
def f__law_text : Fd := ⟨"_law_text", 1, 15, b__law_text⟩
-- not in the small language yet: _law_way
def b__law_way : List Sm := [.never]
def f__law_way : Fd := ⟨"_law_way", 2, 4, b__law_way⟩
def e__law_near_1 : E := .lc [2] (.one 2) .seq [.call 58 [.var 0]] [.cmp .le (.call 87 [.var 1, .var 2]) (.ix (.var 0) (.lit (.int 4)))] (.var 2)
def b__law_near : List Sm := [.ret (e__law_near_1)]
def f__law_near : Fd := ⟨"_law_near", 2, 3, b__law_near⟩
def e__law_airs_1 : E := .lc [2] (.one 2) .rng1 [.op .add (.ix (.ix (.var 0) (.lit (.int 1))) (.lit (.int 0))) (.lit (.int 1))] [.cmp .le (.bi .abs [.op .sub (.var 1) (.var 2)]) (.ix (.ix (.var 0) (.lit (.int 1))) (.lit (.int 1)))] (.bi .int [.var 2])
def b__law_airs : List Sm := [.ret (e__law_airs_1)]
def f__law_airs : Fd := ⟨"_law_airs", 2, 3, b__law_airs⟩
def b__law_speed : List Sm := [.asg (.tup [4, 5, 6]) (.ix (.var 0) (.lit (.int 2))), .ret (.bi .max2 [.lit (.int 0), .op .sub (.op .sub (.op .add (.var 1) (.ix (.ix (.var 4) (.ix (.var 2) (.lit (.int 0)))) (.var 3))) (.ix (.var 5) (.ix (.var 2) (.lit (.int 1))))) (.ix (.var 6) (.ix (.var 2) (.lit (.int 2))))])]
def f__law_speed : Fd := ⟨"_law_speed", 4, 7, b__law_speed⟩
def b__law_sacks : List Sm := [.ret (.ite (.chain .le .le (.ix (.ix (.var 0) (.lit (.int 3))) (.lit (.int 0))) (.var 1) (.ix (.ix (.var 0) (.lit (.int 3))) (.lit (.int 1)))) (.ix (.var 2) (.lit (.int 1))) (.lit (.int 0)))]
def f__law_sacks : Fd := ⟨"_law_sacks", 3, 3, b__law_sacks⟩
-- not in the small language yet: _law_closed
def b__law_closed : List Sm := [.never]
def f__law_closed : Fd := ⟨"_law_closed", 1, 11, b__law_closed⟩
def l__law_airs_row_1 : List Sm := [.asg (.one 4) (.call 46 [.var 0, .call 89 [.var 1, .var 4]]), .expr (.app (.var 3) (.var 4))]
def s__law_airs_row_1 : Sm := .for_ (.one 5) .rng1 [.call 0 [.var 0, .lit (.int 5)]] l__law_airs_row_1
def b__law_airs_row : List Sm := [.asg (.tup [3, 4]) (.tup [.lst [], .ix (.var 2) (.lit (.int 1))]), s__law_airs_row_1, .ret (.bi .tuple [.var 3])]
def f__law_airs_row : Fd := ⟨"_law_airs_row", 3, 6, b__law_airs_row⟩
def b__law_is_int : List Sm := [.ret (.and [.bi (.isi "int") [.var 0], .not (.bi (.isi "bool") [.var 0]), .chain .le .le (.var 1) (.var 0) (.var 2)])]
def f__law_is_int : Fd := ⟨"_law_is_int", 3, 3, b__law_is_int⟩
def e__law_are_ints_1 : E := .lc [3] (.one 3) .seq [.var 0] [] (.call 231 [.var 3, .var 1, .var 2])
def b__law_are_ints : List Sm := [.ret (.and [.bi (.isi "tuple") [.var 0], .bi .all [e__law_are_ints_1]])]
def f__law_are_ints : Fd := ⟨"_law_are_ints", 3, 4, b__law_are_ints⟩
def e__law_mill_v2_1 : E := .lc [6] (.one 6) .rng1 [.op .add (.var 4) (.lit (.int 1))] [] (.call 0 [.var 0, .op .add (.lit (.int 2)) (.var 6)])
def e__law_mill_v2_2 : E := .lc [7] (.one 7) .rng1 [.op .add (.lit (.int 1)) (.call 0 [.var 0, .lit (.int 2)])] [] (.bi .tuple [e__law_mill_v2_1])
def e__law_mill_v2_3 : E := .lc [10] (.one 10) .rng1 [.op .add (.lit (.int 1)) (.call 0 [.var 0, .lit (.int 2)])] [] (.call 0 [.var 0, .lit (.int 3)])
def e__law_mill_v2_4 : E := .lc [11] (.one 11) .rng1 [.lit (.int 2)] [] (.bi .tuple [e__law_mill_v2_3])
def b__law_mill_v2 : List Sm := [.asg (.tup [3, 4]) (.tup [.op .add (.lit (.int 1)) (.call 0 [.var 0, .var 1]), .op .add (.lit (.int 1)) (.call 0 [.var 0, .var 2])]), .asg (.one 5) (e__law_mill_v2_2), .asg (.tup [8, 9]) (e__law_mill_v2_4), .asg (.one 12) (.call 0 [.var 0, .op .add (.var 3) (.lit (.int 1))]), .ret (.tup [.var 3, .tup [.var 4, .call 0 [.var 0, .op .add (.var 4) (.lit (.int 1))]], .tup [.bi .tuple [.var 5], .var 8, .var 9], .tup [.var 12, .op .add (.var 12) (.call 0 [.var 0, .op .add (.op .sub (.var 3) (.var 12)) (.lit (.int 1))])], .call 46 [.var 0, .lst [.lit (.int 0), .lit (.int 1), .lit (.int 1), .lit (.int 2), .lit (.int 3)]]])]
def f__law_mill_v2 : Fd := ⟨"_law_mill", 3, 13, b__law_mill_v2⟩
def e__law_trims_v2_1 : E := .lc [7] (.one 7) .rng1 [.bi .len [.var 3]] [] (.tup [.var 5, .var 6, .var 7])
def l__law_trims_v2_1 : List Sm := [.expr (.ext (.var 4) (e__law_trims_v2_1))]
def s__law_trims_v2_1 : Sm := .for_ (.one 6) .rng1 [.bi .len [.var 2]] l__law_trims_v2_1
def l__law_trims_v2_2 : List Sm := [s__law_trims_v2_1]
def s__law_trims_v2_2 : Sm := .for_ (.one 5) .rng1 [.bi .len [.var 1]] l__law_trims_v2_2
def b__law_trims_v2 : List Sm := [.asg (.tup [1, 2, 3]) (.ix (.var 0) (.lit (.int 2))), .asg (.one 4) (.lst []), s__law_trims_v2_2, .ret (.var 4)]
def f__law_trims_v2 : Fd := ⟨"_law_trims", 1, 8, b__law_trims_v2⟩
-- not in the small language yet: _law_is_near
def b__law_is_near : List Sm := [.never]
def f__law_is_near : Fd := ⟨"_law_is_near", 3, 5, b__law_is_near⟩
def e__law_near_v2_1 : E := .lc [2] (.one 2) .seq [.call 234 [.var 0]] [.call 235 [.var 0, .var 1, .var 2]] (.var 2)
def b__law_near_v2 : List Sm := [.ret (e__law_near_v2_1)]
def f__law_near_v2 : Fd := ⟨"_law_near", 2, 3, b__law_near_v2⟩
def e__law_winds_1 : E := .lc [2] (.one 2) .rng1 [.op .add (.ix (.ix (.var 0) (.lit (.int 1))) (.lit (.int 0))) (.lit (.int 1))] [.cmp .le (.bi .abs [.op .sub (.var 2) (.var 1)]) (.ix (.ix (.var 0) (.lit (.int 1))) (.lit (.int 1)))] (.var 2)
def b__law_winds : List Sm := [.ret (e__law_winds_1)]
def f__law_winds : Fd := ⟨"_law_winds", 2, 3, b__law_winds⟩
-- not in the small language yet: _law_come_v2
def b__law_come_v2 : List Sm := [.never]
def f__law_come_v2 : Fd := ⟨"_law_come", 3, 7, b__law_come_v2⟩
def e__law_states_v2_1 : E := .lc [4] (.one 4) .seq [.call 234 [.var 0]] [] (.tup [.var 2, .var 3, .var 4])
def l__law_states_v2_1 : List Sm := [.expr (.ext (.var 1) (e__law_states_v2_1))]
def s__law_states_v2_1 : Sm := .for_ (.one 3) .rng1 [.op .add (.ix (.ix (.var 0) (.lit (.int 1))) (.lit (.int 0))) (.lit (.int 1))] l__law_states_v2_1
def l__law_states_v2_2 : List Sm := [s__law_states_v2_1]
def s__law_states_v2_2 : Sm := .for_ (.one 2) .rng1 [.op .add (.ix (.var 0) (.lit (.int 0))) (.lit (.int 1))] l__law_states_v2_2
def b__law_states_v2 : List Sm := [.asg (.one 1) (.lst []), s__law_states_v2_2, .ret (.var 1)]
def f__law_states_v2 : Fd := ⟨"_law_states", 1, 5, b__law_states_v2⟩
def b__law_state : List Sm := [.ret (.tup [.call 0 [.var 0, .op .add (.ix (.var 1) (.lit (.int 0))) (.lit (.int 1))], .call 0 [.var 0, .op .add (.ix (.ix (.var 1) (.lit (.int 1))) (.lit (.int 0))) (.lit (.int 1))], .call 46 [.var 0, .call 234 [.var 1]]])]
def f__law_state : Fd := ⟨"_law_state", 2, 2, b__law_state⟩
def b__law_is_trim : List Sm := [.ret (.and [.call 232 [.var 1, .lit (.int 0), .lit (.int 9)], .cmp .isIn (.var 1) (.call 234 [.var 0])])]
def f__law_is_trim : Fd := ⟨"_law_is_trim", 2, 2, b__law_is_trim⟩
def b__law_is_state : List Sm := [.ite (.or [.not (.bi (.isi "tuple") [.var 1]), .cmp .ne (.bi .len [.var 1]) (.lit (.int 3)), .not (.call 231 [.ix (.var 1) (.lit (.int 0)), .lit (.int 0), .ix (.var 0) (.lit (.int 0))])]) [.ret (.lit (.bl false))] [], .ret (.and [.call 231 [.ix (.var 1) (.lit (.int 1)), .lit (.int 0), .ix (.ix (.var 0) (.lit (.int 1))) (.lit (.int 0))], .call 241 [.var 0, .ix (.var 1) (.lit (.int 2))]])]
def f__law_is_state : Fd := ⟨"_law_is_state", 2, 2, b__law_is_state⟩
def e__law_is_good_1 : E := .lc [6] (.one 6) .seq [.var 4] [] (.cmp .isIn (.var 6) (.var 1))
def b__law_is_good : List Sm := [.asg (.tup [4, 5]) (.call 238 [.var 0, .var 2, .var 3]), .ret (.and [.not (.var 5), .not (.bi .any [e__law_is_good_1])])]
def f__law_is_good : Fd := ⟨"_law_is_good", 4, 7, b__law_is_good⟩
-- not in the small language yet: _law_ranks
def b__law_ranks : List Sm := [.never]
def f__law_ranks : Fd := ⟨"_law_ranks", 1, 6, b__law_ranks⟩
def b__law_rising : List Sm := [.ret (.cmp .eq (.bi .lst [.var 0]) (.bi .sset [.var 0]))]
def f__law_rising : Fd := ⟨"_law_rising", 1, 1, b__law_rising⟩
def e__law_are_pages_1 : E := .lc [3] (.one 3) .seq [.var 1] [] (.and [.bi (.isi "tuple") [.var 3], .cmp .eq (.bi .len [.var 3]) (.var 2)])
def e__law_are_pages_2 : E := .lc [3] (.one 3) .seq [.var 1] [] (.call 242 [.var 0, .ix (.var 3) (.lit (.int 0))])
def e__law_are_pages_3 : E := .lc [3] (.one 3) .seq [.var 1] [] (.ix (.var 3) (.lit (.int 0)))
def b__law_are_pages : List Sm := [.ite (.or [.not (.bi (.isi "tuple") [.var 1]), .not (.bi .all [e__law_are_pages_1])]) [.ret (.lit (.bl false))] [], .ret (.and [.bi .all [e__law_are_pages_2], .call 245 [e__law_are_pages_3]])]
def f__law_are_pages : Fd := ⟨"_law_are_pages", 3, 4, b__law_are_pages⟩
-- not in the small language yet: _law_is_book
def b__law_is_book : List Sm := [.never]
def f__law_is_book : Fd := ⟨"_law_is_book", 2, 8, b__law_is_book⟩
-- not in the small language yet: _law_is_storm
def b__law_is_storm : List Sm := [.never]
def f__law_is_storm : Fd := ⟨"_law_is_storm", 2, 9, b__law_is_storm⟩
def e__law_has_1 : E := .lc [2] (.one 2) .seq [.var 0] [] (.cmp .eq (.ix (.var 2) (.lit (.int 0))) (.var 1))
def b__law_has : List Sm := [.ret (.bi .any [e__law_has_1])]
def f__law_has : Fd := ⟨"_law_has", 2, 3, b__law_has⟩
def l__law_odd_v2_1 : List Sm := [.asg (.one 2) (.call 46 [.var 0, .lst [.tup [.var 2], .lst [.var 2], .dic ["a"] [.var 2], .tup [.var 2, .lit (.int 0)], .tup [.lit (.int 0), .var 2]]])]
def s__law_odd_v2_1 : Sm := .for_ (.one 3) .rng1 [.call 0 [.var 0, .lit (.int 3)]] l__law_odd_v2_1
def b__law_odd_v2 : List Sm := [.asg (.one 1) (.lst [.lit .non, .lit (.bl true), .lit (.bl false), .lit (.int 0), .lit (.int 1), .neg (.lit (.int 1)), .lit (.int 7), .op .pow (.lit (.int 10)) (.lit (.int 11)), .lit (.str ""), .lit (.str "a"), .lit (.str "places"), .tup [], .tup [.lit (.int 0)], .tup [.lit .non], .lst [], .lst [.lit (.int 0)], .dic [] [], .dic ["a"] [.lit (.int 1)], .tup [.tup [.lit (.int 0), .lit (.int 0)]]]), .asg (.one 2) (.call 46 [.var 0, .var 1]), s__law_odd_v2_1, .ret (.var 2)]
def f__law_odd_v2 : Fd := ⟨"_law_odd", 1, 4, b__law_odd_v2⟩
def b__law_bent_v2 : List Sm := [.ite (.and [.bi (.isi "tuple") [.var 1], .cmp .ne (.var 1) (.tup []), .cmp .gt (.call 0 [.var 0, .lit (.int 5)]) (.lit (.int 0))]) [.asg (.one 2) (.call 0 [.var 0, .bi .len [.var 1]]), .ret (.op .add (.op .add (.slc (.var 1) none (some (.var 2))) (.tup [.call 251 [.var 0, .ix (.var 1) (.var 2)]])) (.slc (.var 1) (some (.op .add (.var 2) (.lit (.int 1)))) none))] [], .ite (.bi (.isi "tuple") [.var 1]) [.asg (.one 2) (.call 0 [.var 0, .op .add (.bi .len [.var 1]) (.lit (.int 1))]), .asg (.one 3) (.lst [.bi .lst [.var 1], .op .add (.slc (.var 1) none (some (.var 2))) (.slc (.var 1) (some (.op .add (.var 2) (.lit (.int 1)))) none), .op .add (.var 1) (.slc (.var 1) (some (.var 2)) (some (.op .add (.var 2) (.lit (.int 1))))), .rev (.var 1), .op .add (.op .add (.slc (.var 1) none (some (.var 2))) (.tup [.call 250 [.var 0]])) (.slc (.var 1) (some (.var 2)) none)]), .ret (.call 46 [.var 0, .var 3])] [], .ite (.or [.bi (.isi "bool") [.var 1], .not (.bi (.isi "int") [.var 1])]) [.ret (.call 250 [.var 0])] [], .ret (.call 46 [.var 0, .lst [.op .add (.var 1) (.lit (.int 1)), .op .sub (.var 1) (.lit (.int 1)), .op .add (.var 1) (.lit (.int 2)), .neg (.var 1), .bi .str [.var 1], .tup [.var 1], .cmp .eq (.var 1) (.lit (.int 1)), .lit .non, .lit (.int 29), .lit (.int 30)]])]
def f__law_bent_v2 : Fd := ⟨"_law_bent", 2, 4, b__law_bent_v2⟩
-- not in the small language yet: _law_some_v2
def b__law_some_v2 : List Sm := [.never]
def f__law_some_v2 : Fd := ⟨"_law_some", 3, 5, b__law_some_v2⟩
def b__law_cells_v2 : List Sm := [.ret (.bi .rng1 [.bi .max2 [.lit (.int 1), .bi .min2 [.var 1, .bi .len [.var 0]]]])]
def f__law_cells_v2 : Fd := ⟨"_law_cells", 2, 2, b__law_cells_v2⟩
-- not in the small language yet: _law_heard
def b__law_heard : List Sm := [.never]
def f__law_heard : Fd := ⟨"_law_heard", 1, 3, b__law_heard⟩
def l__law_blown_1 : List Sm := [.expr (.app (.var 4) (.call 46 [.var 0, .call 237 [.var 1, .ix (.var 4) (.neg (.lit (.int 1)))]]))]
def s__law_blown_1 : Sm := .for_ (.one 5) .rng1 [.var 3] l__law_blown_1
def b__law_blown : List Sm := [.asg (.one 4) (.lst [.var 2]), s__law_blown_1, .ret (.bi .tuple [.slc (.var 4) (some (.lit (.int 1))) none])]
def f__law_blown : Fd := ⟨"_law_blown", 4, 6, b__law_blown⟩
def e__law_first_1 : E := .lc [2, 3, 4] (.tup [2, 3, 4]) .seq [.var 0] [.not (.var 4)] (.tup [.var 2, .var 3])
def b__law_first : List Sm := [.asg (.one 1) (e__law_first_1), .ret (.ite (.cmp .ne (.var 1) (.lst [])) (.ix (.var 1) (.lit (.int 0))) (.lit .non))]
def f__law_first : Fd := ⟨"_law_first", 1, 5, b__law_first⟩
def b__law_shown_mill : List Sm := [.asg (.one 1) (.tup [.lit (.int 2), .tup [.lit (.int 1), .lit (.int 1)], .tup [.tup [.tup [.lit (.int 0), .lit (.int 0)], .tup [.lit (.int 0), .lit (.int 1)]], .tup [.lit (.int 0), .lit (.int 1)], .tup [.lit (.int 0)]], .tup [.lit (.int 0), .lit (.int 2)], .lit (.int 1)]), .asg (.one 2) (.ix (.var 1) (.lit (.int 2))), .asg (.one 3) (.lst [.lit .non, .lit (.int 0), .tup [], .bi .lst [.var 1], .slc (.var 1) none (some (.lit (.int 4))), .op .add (.var 1) (.tup [.lit (.int 0)])]), .expr (.ext (.var 3) (.lst [.op .add (.tup [.lit (.int 0)]) (.slc (.var 1) (some (.lit (.int 1))) none), .op .add (.tup [.lit (.int 13)]) (.slc (.var 1) (some (.lit (.int 1))) none), .op .add (.tup [.lit (.bl true)]) (.slc (.var 1) (some (.lit (.int 1))) none), .tup [.lit (.int 2), .tup [.lit (.int 0), .lit (.int 0)], .var 2, .tup [.lit (.int 0), .lit (.int 2)], .lit (.int 1)], .tup [.lit (.int 2), .tup [.lit (.int 5), .lit (.int 1)], .var 2, .tup [.lit (.int 0), .lit (.int 2)], .lit (.int 1)], .tup [.lit (.int 2), .tup [.lit (.int 1), .lit (.int 2)], .var 2, .tup [.lit (.int 0), .lit (.int 2)], .lit (.int 1)]])), .expr (.ext (.var 3) (.lst [.tup [.lit (.int 2), .tup [.lit (.int 1), .lit (.int 1)], .tup [.tup [.tup [.lit (.int 0), .lit (.int 0), .lit (.int 0)]], .tup [.lit (.int 0)], .tup [.lit (.int 0)]], .tup [.lit (.int 0), .lit (.int 2)], .lit (.int 1)], .tup [.lit (.int 2), .tup [.lit (.int 1), .lit (.int 1)], .tup [.tup [], .tup [.lit (.int 0)], .tup [.lit (.int 0)]], .tup [.lit (.int 0), .lit (.int 2)], .lit (.int 1)]])), .expr (.ext (.var 3) (.lst [.tup [.lit (.int 2), .tup [.lit (.int 1), .lit (.int 1)], .tup [.tup [.tup [.lit (.int 0), .lit (.int 10)]], .tup [.lit (.int 0)], .tup [.lit (.int 0)]], .tup [.lit (.int 0), .lit (.int 2)], .lit (.int 1)], .tup [.lit (.int 2), .tup [.lit (.int 1), .lit (.int 1)], .tup [.tup [.tup [.lit (.int 0), .lit (.int 0)]], .op .mul (.tup [.lit (.int 0)]) (.lit (.int 4)), .tup [.lit (.int 0)]], .tup [.lit (.int 0), .lit (.int 2)], .lit (.int 1)]])), .expr (.ext (.var 3) (.lst [.tup [.lit (.int 2), .tup [.lit (.int 1), .lit (.int 1)], .var 2, .tup [.lit (.int 2), .lit (.int 1)], .lit (.int 1)], .tup [.lit (.int 2), .tup [.lit (.int 1), .lit (.int 1)], .var 2, .tup [.lit (.int 0), .lit (.int 3)], .lit (.int 1)], .tup [.lit (.int 2), .tup [.lit (.int 1), .lit (.int 1)], .var 2, .tup [.lit (.int 0), .lit (.int 2)], .lit (.int 8)]])), .expr (.ext (.var 3) (.lst [.tup [.lit (.int 2), .tup [.lit (.int 1), .lit (.int 1)], .var 2, .tup [.lit (.int 0), .lit (.int 2)], .neg (.lit (.int 1))], .tup [.lit (.int 2), .tup [.lit (.int 1), .lit (.int 1)], .var 2, .lst [.lit (.int 0), .lit (.int 2)], .lit (.int 1)], .tup [.lit (.int 2), .tup [.lit (.int 1), .lit (.int 1)], .tup [.op .mul (.tup [.tup [.lit (.int 0), .lit (.int 0)]]) (.lit (.int 5)), .tup [.lit (.int 0)], .tup [.lit (.int 0)]], .tup [.lit (.int 0), .lit (.int 2)], .lit (.int 1)]])), .ret (.ite (.cmp .eq (.call 0 [.var 0, .lit (.int 4)]) (.lit (.int 0))) (.tup [.call 46 [.var 0, .var 3], .lit (.bl false)]) (.tup [.var 1, .lit (.bl true)]))]
def f__law_shown_mill : Fd := ⟨"_law_shown_mill", 1, 4, b__law_shown_mill⟩
def e__law_shown_state_1 : E := .lc [3] (.one 3) .seq [.lst [.tup [.lit (.int 0), .lit (.int 0), .tup [.lit (.int 0), .lit (.int 0), .lit (.int 0)]], .tup [.lit (.int 2), .lit (.int 1), .tup [.lit (.int 1), .lit (.int 1), .lit (.int 0)]], .tup [.lit (.int 1), .lit (.int 0), .tup [.lit (.int 1), .lit (.int 0), .lit (.int 0)]]]] [] (.bi .repr [.var 3])
def b__law_shown_state : List Sm := [.asg (.one 1) (.lst [.tup [.lit (.int 3), .lit (.int 0), .tup [.lit (.int 0), .lit (.int 0), .lit (.int 0)]], .tup [.lit (.int 0), .lit (.int 2), .tup [.lit (.int 0), .lit (.int 0), .lit (.int 0)]], .tup [.lit (.int 0), .lit (.int 0), .tup [.lit (.int 2), .lit (.int 0), .lit (.int 0)]], .tup [.lit (.int 0), .lit (.int 0), .tup [.lit (.int 0), .lit (.int 0), .lit (.int 1)]], .tup [.lit (.int 0), .lit (.int 0), .tup [.lit (.int 0), .lit (.int 0)]], .lst [.lit (.int 0), .lit (.int 0), .tup [.lit (.int 0), .lit (.int 0), .lit (.int 0)]]]), .expr (.ext (.var 1) (.lst [.lit .non, .tup [.lit (.int 0), .lit (.int 0)], .tup [.lit (.bl true), .lit (.int 0), .tup [.lit (.int 0), .lit (.int 0), .lit (.int 0)]], .tup [.lit (.int 0), .lit (.int 0), .lst [.lit (.int 0), .lit (.int 0), .lit (.int 0)]], .tup [.neg (.lit (.int 1)), .lit (.int 0), .tup [.lit (.int 0), .lit (.int 0), .lit (.int 0)]], .lit (.int 0)])), .asg (.one 2) (.ite (.cmp .eq (.call 0 [.var 0, .lit (.int 4)]) (.lit (.int 0))) (.call 46 [.var 0, .var 1]) (.call 46 [.var 0, .lst [.tup [.lit (.int 0), .lit (.int 0), .tup [.lit (.int 0), .lit (.int 0), .lit (.int 0)]], .tup [.lit (.int 2), .lit (.int 1), .tup [.lit (.int 1), .lit (.int 1), .lit (.int 0)]], .tup [.lit (.int 1), .lit (.int 0), .tup [.lit (.int 1), .lit (.int 0), .lit (.int 0)]]]])), .ret (.tup [.var 2, .cmp .isIn (.bi .repr [.var 2]) (e__law_shown_state_1)])]
def f__law_shown_state : Fd := ⟨"_law_shown_state", 1, 4, b__law_shown_state⟩
def e__law_shown_trim_1 : E := .lc [3] (.one 3) .seq [.lst [.tup [.lit (.int 0), .lit (.int 0), .lit (.int 0)], .tup [.lit (.int 1), .lit (.int 1), .lit (.int 0)], .tup [.lit (.int 1), .lit (.int 0), .lit (.int 0)]]] [] (.bi .repr [.var 3])
def b__law_shown_trim : List Sm := [.asg (.one 1) (.lst [.tup [.lit (.int 2), .lit (.int 0), .lit (.int 0)], .tup [.lit (.int 0), .lit (.int 2), .lit (.int 0)], .tup [.lit (.int 0), .lit (.int 0), .lit (.int 1)], .tup [.lit (.int 0), .lit (.int 0)], .lst [.lit (.int 0), .lit (.int 0), .lit (.int 0)], .lit .non, .tup [.lit (.bl true), .lit (.int 0), .lit (.int 0)], .lit (.int 0), .tup [.neg (.lit (.int 1)), .lit (.int 0), .lit (.int 0)]]), .asg (.one 2) (.ite (.cmp .eq (.call 0 [.var 0, .lit (.int 4)]) (.lit (.int 0))) (.call 46 [.var 0, .var 1]) (.call 46 [.var 0, .lst [.tup [.lit (.int 0), .lit (.int 0), .lit (.int 0)], .tup [.lit (.int 1), .lit (.int 1), .lit (.int 0)], .tup [.lit (.int 1), .lit (.int 0), .lit (.int 0)]]])), .ret (.tup [.var 2, .cmp .isIn (.bi .repr [.var 2]) (e__law_shown_trim_1)])]
def f__law_shown_trim : Fd := ⟨"_law_shown_trim", 1, 4, b__law_shown_trim⟩
-- not in the small language yet: _law_sure
def b__law_sure : List Sm := [.never]
def f__law_sure : Fd := ⟨"_law_sure", 2, 12, b__law_sure⟩
def e__law_all_winds_1 : E := .lc [7] (.one 7) .seq [.call 237 [.var 0, .ite (.cmp .ne (.var 6) (.tup [])) (.ix (.var 6) (.neg (.lit (.int 1)))) (.var 1)]] [] (.op .add (.var 6) (.tup [.var 7]))
def l__law_all_winds_1 : List Sm := [.expr (.ext (.var 5) (e__law_all_winds_1))]
def s__law_all_winds_1 : Sm := .for_ (.one 6) .seq [.var 3] l__law_all_winds_1
def l__law_all_winds_2 : List Sm := [.asg (.one 5) (.lst []), s__law_all_winds_1, .asg (.one 3) (.var 5)]
def s__law_all_winds_2 : Sm := .for_ (.one 4) .rng1 [.var 2] l__law_all_winds_2
def b__law_all_winds : List Sm := [.asg (.one 3) (.lst [.tup []]), s__law_all_winds_2, .ret (.var 3)]
def f__law_all_winds : Fd := ⟨"_law_all_winds", 3, 8, b__law_all_winds⟩
def b__law_change : List Sm := [.ret (.op .sub (.op .mul (.ix (.var 1) (.lit (.int 1))) (.call 91 [.var 0, .ix (.var 2) (.lit (.int 0)), .ix (.var 2) (.lit (.int 2))])) (.ix (.var 1) (.lit (.int 0))))]
def f__law_change : Fd := ⟨"_law_change", 3, 3, b__law_change⟩
-- not in the small language yet: _law_flours
def b__law_flours : List Sm := [.never]
def f__law_flours : Fd := ⟨"_law_flours", 2, 12, b__law_flours⟩
def b__law_need : List Sm := [.ret (.tup [.call 46 [.var 0, .lst [.lit (.int 0), .lit (.int 1), .lit (.int 1), .lit (.int 2), .lit (.int 3)]], .call 46 [.var 0, .lst [.lit (.int 1), .lit (.int 1), .lit (.int 2), .lit (.int 3)]]])]
def f__law_need : Fd := ⟨"_law_need", 1, 1, b__law_need⟩
def l__law_governor_1 : List Sm := [.expr (.app (.var 3) (.ite (.and [.cmp .ne (.var 3) (.lst []), .cmp .eq (.call 0 [.var 0, .lit (.int 2)]) (.lit (.int 0))]) (.ix (.var 3) (.neg (.lit (.int 1)))) (.call 46 [.var 0, .var 2])))]
def s__law_governor_1 : Sm := .for_ (.one 4) .rng1 [.op .add (.ix (.var 1) (.lit (.int 0))) (.lit (.int 1))] l__law_governor_1
def b__law_governor : List Sm := [.asg (.tup [2, 3]) (.tup [.call 234 [.var 1], .lst []]), s__law_governor_1, .ret (.bi .tuple [.var 3])]
def f__law_governor : Fd := ⟨"_law_governor", 2, 5, b__law_governor⟩
def b__law_odd_v3 : List Sm := [.asg (.one 1) (.lst [.lit .non, .lit (.bl true), .lit (.bl false), .lit (.int 0), .lit (.int 1), .neg (.lit (.int 1)), .lit (.int 7), .op .pow (.lit (.int 10)) (.lit (.int 11)), .lit (.str ""), .lit (.str "a"), .lit (.str "book"), .tup [], .tup [.lit (.int 0)], .tup [.lit .non], .lst [], .lst [.lit (.int 0)], .dic [] [], .dic ["a"] [.lit (.int 1)], .tup [.tup [.lit (.int 0), .lit (.int 0)]]]), .ret (.call 46 [.var 0, .var 1])]
def f__law_odd_v3 : Fd := ⟨"_law_odd", 1, 2, b__law_odd_v3⟩
def b__law_bent_v3 : List Sm := [.ite (.and [.bi (.isi "tuple") [.var 1], .cmp .ne (.var 1) (.tup []), .cmp .ne (.call 0 [.var 0, .lit (.int 5)]) (.lit (.int 0))]) [.asg (.one 2) (.call 0 [.var 0, .bi .len [.var 1]]), .ret (.op .add (.op .add (.slc (.var 1) none (some (.var 2))) (.tup [.call 859 [.var 0, .ix (.var 1) (.var 2)]])) (.slc (.var 1) (some (.op .add (.var 2) (.lit (.int 1)))) none))] [], .ite (.bi (.isi "tuple") [.var 1]) [.asg (.one 3) (.bi .lst [.var 1]), .ret (.call 46 [.var 0, .lst [.var 3, .slc (.var 1) none (some (.neg (.lit (.int 1)))), .op .add (.var 1) (.slc (.var 1) none (some (.lit (.int 1)))), .op .add (.var 1) (.tup [.lit (.int 0)]), .rev (.var 1), .tup [.var 1], .slc (.var 3) none (some (.lit (.int 1))), .call 858 [.var 0]]])] [], .ite (.call 231 [.var 1, .neg (.op .pow (.lit (.int 10)) (.lit (.int 30))), .op .pow (.lit (.int 10)) (.lit (.int 30))]) [.ret (.call 46 [.var 0, .lst [.op .add (.var 1) (.lit (.int 1)), .op .sub (.var 1) (.lit (.int 1)), .neg (.var 1), .bi .str [.var 1], .cmp .eq (.var 1) (.lit (.int 1)), .call 858 [.var 0]]])] [], .ret (.call 858 [.var 0])]
def f__law_bent_v3 : Fd := ⟨"_law_bent", 2, 4, b__law_bent_v3⟩
def e__law_mill_v3_1 : E := .lc [6] (.one 6) .rng1 [.op .add (.var 4) (.lit (.int 1))] [] (.call 0 [.var 0, .lit (.int 3)])
def e__law_mill_v3_2 : E := .lc [7] (.one 7) .rng1 [.op .add (.lit (.int 1)) (.call 0 [.var 0, .lit (.int 2)])] [] (.bi .tuple [e__law_mill_v3_1])
def b__law_mill_v3 : List Sm := [.asg (.tup [3, 4]) (.tup [.op .add (.lit (.int 1)) (.call 0 [.var 0, .var 1]), .op .add (.lit (.int 1)) (.call 0 [.var 0, .var 2])]), .asg (.one 5) (.bi .tuple [e__law_mill_v3_2]), .asg (.tup [8, 9]) (.tup [.slc (.tup [.lit (.int 0), .lit (.int 1)]) none (some (.op .add (.lit (.int 1)) (.call 0 [.var 0, .lit (.int 2)]))), .slc (.tup [.lit (.int 0), .op .add (.lit (.int 1)) (.call 0 [.var 0, .lit (.int 3)])]) none (some (.op .add (.lit (.int 1)) (.call 0 [.var 0, .lit (.int 2)])))]), .asg (.one 10) (.call 0 [.var 0, .op .add (.var 3) (.lit (.int 1))]), .asg (.one 11) (.tup [.var 10, .op .add (.var 10) (.call 0 [.var 0, .op .sub (.op .add (.var 3) (.lit (.int 1))) (.var 10)])]), .ret (.tup [.var 3, .tup [.var 4, .call 0 [.var 0, .op .add (.var 4) (.lit (.int 1))]], .tup [.var 5, .var 8, .var 9], .var 11, .call 0 [.var 0, .lit (.int 4)]])]
def f__law_mill_v3 : Fd := ⟨"_law_mill", 3, 12, b__law_mill_v3⟩
def e__law_trims_v3_1 : E := .lc [4] (.one 4) .rng1 [.bi .len [.ix (.ix (.var 0) (.lit (.int 2))) (.lit (.int 2))]] [] (.tup [.var 2, .var 3, .var 4])
def l__law_trims_v3_1 : List Sm := [.expr (.ext (.var 1) (e__law_trims_v3_1))]
def s__law_trims_v3_1 : Sm := .for_ (.one 3) .rng1 [.bi .len [.ix (.ix (.var 0) (.lit (.int 2))) (.lit (.int 1))]] l__law_trims_v3_1
def l__law_trims_v3_2 : List Sm := [s__law_trims_v3_1]
def s__law_trims_v3_2 : Sm := .for_ (.one 2) .rng1 [.bi .len [.ix (.ix (.var 0) (.lit (.int 2))) (.lit (.int 0))]] l__law_trims_v3_2
def b__law_trims_v3 : List Sm := [.asg (.one 1) (.lst []), s__law_trims_v3_2, .ret (.var 1)]
def f__law_trims_v3 : Fd := ⟨"_law_trims", 1, 5, b__law_trims_v3⟩
-- not in the small language yet: _law_near_v3
def b__law_near_v3 : List Sm := [.never]
def f__law_near_v3 : Fd := ⟨"_law_near", 2, 5, b__law_near_v3⟩
def b__law_state_v2 : List Sm := [.ret (.tup [.call 0 [.var 0, .op .add (.ix (.var 1) (.lit (.int 0))) (.lit (.int 1))], .call 0 [.var 0, .op .add (.ix (.ix (.var 1) (.lit (.int 1))) (.lit (.int 0))) (.lit (.int 1))], .call 46 [.var 0, .call 861 [.var 1]]])]
def f__law_state_v2 : Fd := ⟨"_law_state", 2, 2, b__law_state_v2⟩
def l__law_drawn_winds_1 : List Sm := [.asg (.one 2) (.call 46 [.var 0, .call 237 [.var 1, .var 2]]), .expr (.app (.var 4) (.var 2))]
def s__law_drawn_winds_1 : Sm := .for_ (.one 5) .rng1 [.var 3] l__law_drawn_winds_1
def b__law_drawn_winds : List Sm := [.asg (.one 4) (.lst []), s__law_drawn_winds_1, .ret (.bi .tuple [.var 4])]
def f__law_drawn_winds : Fd := ⟨"_law_drawn_winds", 4, 6, b__law_drawn_winds⟩
-- not in the small language yet: _law_most
def b__law_most : List Sm := [.never]
def f__law_most : Fd := ⟨"_law_most", 1, 3, b__law_most⟩
-- not in the small language yet: _law_with_v2
def b__law_with_v2 : List Sm := [.never]
def f__law_with_v2 : Fd := ⟨"_law_with", 7, 11, b__law_with_v2⟩
-- not in the small language yet: _law_sure_v2
def b__law_sure_v2 : List Sm := [.never]
def f__law_sure_v2 : Fd := ⟨"_law_sure", 6, 11, b__law_sure_v2⟩
def b__law_rank_v2 : List Sm := [.ret (.ite (.cmp .isN (.var 0) (.lit .non)) (.neg (.lit (.int 1))) (.var 0))]
def f__law_rank_v2 : Fd := ⟨"_law_rank", 1, 1, b__law_rank_v2⟩
def e__law_rows_1 : E := .lc [7] (.one 7) .seq [.call 237 [.var 0, .ite (.cmp .ne (.var 6) (.tup [])) (.ix (.var 6) (.neg (.lit (.int 1)))) (.var 1)]] [] (.op .add (.var 6) (.tup [.var 7]))
def l__law_rows_1 : List Sm := [.expr (.ext (.var 5) (e__law_rows_1))]
def s__law_rows_1 : Sm := .for_ (.one 6) .seq [.var 3] l__law_rows_1
def l__law_rows_2 : List Sm := [.asg (.one 5) (.lst []), s__law_rows_1, .asg (.one 3) (.var 5)]
def s__law_rows_2 : Sm := .for_ (.one 4) .rng1 [.var 2] l__law_rows_2
def b__law_rows : List Sm := [.asg (.one 3) (.lst [.tup []]), s__law_rows_2, .ret (.var 3)]
def f__law_rows : Fd := ⟨"_law_rows", 3, 8, b__law_rows⟩
-- not in the small language yet: _law_caught_v2
def b__law_caught_v2 : List Sm := [.never]
def f__law_caught_v2 : Fd := ⟨"_law_caught", 1, 3, b__law_caught_v2⟩
def e__law_is_mill_1 : E := .lc [6] (.one 6) .seq [.ix (.var 3) (.lit (.int 0))] [] (.and [.call 232 [.var 6, .lit (.int 0), .lit (.int 9)], .cmp .eq (.bi .len [.var 6]) (.op .add (.ix (.var 2) (.lit (.int 0))) (.lit (.int 1)))])
def e__law_is_mill_2 : E := .lc [6] (.one 6) .seq [.slc (.var 3) (some (.lit (.int 1))) none] [] (.and [.call 232 [.var 6, .lit (.int 0), .lit (.int 9)], .chain .le .le (.lit (.int 1)) (.bi .len [.var 6]) (.lit (.int 3))])
def b__law_is_mill : List Sm := [.ite (.or [.not (.bi (.isi "tuple") [.var 0]), .cmp .ne (.bi .len [.var 0]) (.lit (.int 5)), .not (.call 231 [.ix (.var 0) (.lit (.int 0)), .lit (.int 1), .lit (.int 12)])]) [.ret (.lit (.bl false))] [], .asg (.tup [1, 2, 3, 4, 5]) (.var 0), .ite (.or [.not (.bi (.isi "tuple") [.var 2]), .cmp .ne (.bi .len [.var 2]) (.lit (.int 2)), .not (.call 231 [.ix (.var 2) (.lit (.int 0)), .lit (.int 1), .lit (.int 4)]), .not (.call 231 [.ix (.var 2) (.lit (.int 1)), .lit (.int 0), .ix (.var 2) (.lit (.int 0))])]) [.ret (.lit (.bl false))] [], .ite (.or [.not (.bi (.isi "tuple") [.var 3]), .cmp .ne (.bi .len [.var 3]) (.lit (.int 3)), .not (.bi (.isi "tuple") [.ix (.var 3) (.lit (.int 0))]), .not (.chain .le .le (.lit (.int 1)) (.bi .len [.ix (.var 3) (.lit (.int 0))]) (.lit (.int 4)))]) [.ret (.lit (.bl false))] [], .ite (.not (.bi .all [e__law_is_mill_1])) [.ret (.lit (.bl false))] [], .ite (.not (.bi .all [e__law_is_mill_2])) [.ret (.lit (.bl false))] [], .ret (.and [.call 232 [.var 4, .lit (.int 0), .var 1], .cmp .eq (.bi .len [.var 4]) (.lit (.int 2)), .cmp .le (.ix (.var 4) (.lit (.int 0))) (.ix (.var 4) (.lit (.int 1))), .call 231 [.var 5, .lit (.int 0), .lit (.int 7)]])]
def f__law_is_mill : Fd := ⟨"_law_is_mill", 1, 7, b__law_is_mill⟩
-- not in the small language yet: _law_is_trim_v2
def b__law_is_trim_v2 : List Sm := [.never]
def f__law_is_trim_v2 : Fd := ⟨"_law_is_trim", 2, 4, b__law_is_trim_v2⟩
def b__law_is_state_v2 : List Sm := [.ite (.or [.not (.bi (.isi "tuple") [.var 1]), .cmp .ne (.bi .len [.var 1]) (.lit (.int 3))]) [.ret (.lit (.bl false))] [], .ret (.and [.call 231 [.ix (.var 1) (.lit (.int 0)), .lit (.int 0), .ix (.var 0) (.lit (.int 0))], .call 231 [.ix (.var 1) (.lit (.int 1)), .lit (.int 0), .ix (.ix (.var 0) (.lit (.int 1))) (.lit (.int 0))], .call 901 [.var 0, .ix (.var 1) (.lit (.int 2))]])]
def f__law_is_state_v2 : Fd := ⟨"_law_is_state", 2, 2, b__law_is_state_v2⟩
def b__law_some_mill : List Sm := [.asg (.one 1) (.tup [.lit (.int 2), .tup [.lit (.int 1), .lit (.int 1)], .tup [.tup [.tup [.lit (.int 0), .lit (.int 1)], .tup [.lit (.int 1), .lit (.int 2)]], .tup [.lit (.int 0), .lit (.int 1)], .tup [.lit (.int 0), .lit (.int 1)]], .tup [.lit (.int 0), .lit (.int 2)], .lit (.int 1)]), .asg (.one 2) (.lst [.op .add (.tup [.lit (.int 0)]) (.slc (.var 1) (some (.lit (.int 1))) none), .op .add (.tup [.lit (.int 13)]) (.slc (.var 1) (some (.lit (.int 1))) none), .slc (.var 1) none (some (.lit (.int 4))), .op .add (.tup [.lit (.int 2), .tup [.lit (.int 0), .lit (.int 0)]]) (.slc (.var 1) (some (.lit (.int 2))) none), .op .add (.tup [.lit (.int 2), .tup [.lit (.int 1), .lit (.int 2)]]) (.slc (.var 1) (some (.lit (.int 2))) none), .op .add (.op .add (.slc (.var 1) none (some (.lit (.int 2)))) (.tup [.tup [.tup [.tup [.lit (.int 0)]], .tup [.lit (.int 0)], .tup [.lit (.int 0)]]])) (.slc (.var 1) (some (.lit (.int 3))) none)]), .asg (.one 2) (.op .add (.var 2) (.lst [.op .add (.slc (.var 1) none (some (.lit (.int 3)))) (.tup [.tup [.lit (.int 1), .lit (.int 0)], .lit (.int 1)]), .op .add (.slc (.var 1) none (some (.lit (.int 3)))) (.tup [.tup [.lit (.int 0), .lit (.int 3)], .lit (.int 1)]), .op .add (.slc (.var 1) none (some (.lit (.int 4)))) (.tup [.lit (.int 8)]), .bi .lst [.var 1], .lit .non, .op .add (.tup [.lit (.bl true)]) (.slc (.var 1) (some (.lit (.int 1))) none), .call 858 [.var 0], .call 859 [.var 0, .var 1]])), .ret (.call 46 [.var 0, .lst [.var 1, .var 1, .call 46 [.var 0, .var 2]]])]
def f__law_some_mill : Fd := ⟨"_law_some_mill", 1, 3, b__law_some_mill⟩
def l__law_gcd_1 : List Sm := [.asg (.tup [0, 1]) (.tup [.var 1, .op .mod (.var 0) (.var 1)])]
def s__law_gcd_1 : Sm := .whl (.cmp .ne (.var 1) (.lit (.int 0))) l__law_gcd_1
def b__law_gcd : List Sm := [s__law_gcd_1, .ret (.var 0)]
def f__law_gcd : Fd := ⟨"_law_gcd", 2, 2, b__law_gcd⟩
def b__law_fraction : List Sm := [.asg (.one 2) (.call 911 [.var 0, .var 1]), .ret (.tup [.op .fdiv (.var 0) (.var 2), .op .fdiv (.var 1) (.var 2)])]
def f__law_fraction : Fd := ⟨"_law_fraction", 2, 3, b__law_fraction⟩
def b__law_plus : List Sm := [.ret (.call 912 [.op .add (.op .mul (.ix (.var 0) (.lit (.int 0))) (.ix (.var 1) (.lit (.int 1)))) (.op .mul (.ix (.var 1) (.lit (.int 0))) (.ix (.var 0) (.lit (.int 1)))), .op .mul (.ix (.var 0) (.lit (.int 1))) (.ix (.var 1) (.lit (.int 1)))])]
def f__law_plus : Fd := ⟨"_law_plus", 2, 2, b__law_plus⟩
def b__law_share : List Sm := [.ret (.call 912 [.op .mul (.ix (.var 0) (.lit (.int 0))) (.var 1), .op .mul (.ix (.var 0) (.lit (.int 1))) (.var 2)])]
def f__law_share : Fd := ⟨"_law_share", 3, 3, b__law_share⟩
def e__law_chances_v2_1 : E := .lc [6] (.one 6) .rng1 [.op .add (.ix (.ix (.var 1) (.lit (.int 1))) (.lit (.int 0))) (.lit (.int 1))] [] (.ite (.cmp .isIn (.var 6) (.var 4)) (.call 46 [.var 0, .lst [.lit (.int 0), .lit (.int 1), .lit (.int 1), .lit (.int 2), .lit (.int 5)]]) (.lit (.int 0)))
def l__law_chances_v2_1 : List Sm := [.asg (.one 4) (.call 237 [.var 1, .var 3]), .asg (.one 5) (e__law_chances_v2_1), .ite (.cmp .eq (.bi .sum [.var 5]) (.lit (.int 0))) [.setIx (.var 5) (.var 3) (.lit (.int 1))] [], .expr (.app (.var 2) (.bi .tuple [.var 5]))]
def s__law_chances_v2_1 : Sm := .for_ (.one 3) .rng1 [.op .add (.ix (.ix (.var 1) (.lit (.int 1))) (.lit (.int 0))) (.lit (.int 1))] l__law_chances_v2_1
def b__law_chances_v2 : List Sm := [.asg (.one 2) (.lst []), s__law_chances_v2_1, .ret (.bi .tuple [.var 2])]
def f__law_chances_v2 : Fd := ⟨"_law_chances", 2, 7, b__law_chances_v2⟩
def e__law_states_v3_1 : E := .lc [4] (.one 4) .seq [.call 861 [.var 0]] [] (.tup [.var 2, .var 3, .var 4])
def l__law_states_v3_1 : List Sm := [.expr (.ext (.var 1) (e__law_states_v3_1))]
def s__law_states_v3_1 : Sm := .for_ (.one 3) .rng1 [.op .add (.ix (.ix (.var 0) (.lit (.int 1))) (.lit (.int 0))) (.lit (.int 1))] l__law_states_v3_1
def l__law_states_v3_2 : List Sm := [s__law_states_v3_1]
def s__law_states_v3_2 : Sm := .for_ (.one 2) .rng1 [.op .add (.ix (.var 0) (.lit (.int 0))) (.lit (.int 1))] l__law_states_v3_2
def b__law_states_v3 : List Sm := [.asg (.one 1) (.lst []), s__law_states_v3_2, .ret (.var 1)]
def f__law_states_v3 : Fd := ⟨"_law_states", 1, 5, b__law_states_v3⟩
def l__law_comes_1 : List Sm := [.ite (.cmp .gt (.ix (.var 4) (.var 6)) (.lit (.int 0))) [.asg (.one 7) (.call 90 [.var 0, .ix (.var 2) (.lit (.int 0)), .var 3, .var 6]), .expr (.app (.var 5) (.tup [.ix (.var 4) (.var 6), .bi .sum [.var 4], .call 91 [.var 0, .var 7, .var 3], .ite (.cmp .le (.var 7) (.ix (.var 0) (.lit (.int 0)))) (.tup [.var 7, .var 6, .var 3]) (.lit .non)]))] []]
def s__law_comes_1 : Sm := .for_ (.one 6) .rng1 [.bi .len [.var 4]] l__law_comes_1
def b__law_comes : List Sm := [.asg (.tup [4, 5]) (.tup [.ix (.var 1) (.ix (.var 2) (.lit (.int 1))), .lst []]), s__law_comes_1, .ret (.var 5)]
def f__law_comes : Fd := ⟨"_law_comes", 4, 8, b__law_comes⟩
-- not in the small language yet: _law_is_bet
def b__law_is_bet : List Sm := [.never]
def f__law_is_bet : Fd := ⟨"_law_is_bet", 5, 17, b__law_is_bet⟩
-- not in the small language yet: _law_gone
def b__law_gone : List Sm := [.never]
def f__law_gone : Fd := ⟨"_law_gone", 5, 19, b__law_gone⟩
-- not in the small language yet: _law_drawn_bet
def b__law_drawn_bet : List Sm := [.never]
def f__law_drawn_bet : Fd := ⟨"_law_drawn_bet", 5, 12, b__law_drawn_bet⟩
-- not in the small language yet: _law_best_v2
def b__law_best_v2 : List Sm := [.never]
def f__law_best_v2 : Fd := ⟨"_law_best", 5, 19, b__law_best_v2⟩
def b__law_limits : List Sm := [.ret (.tup [.call 0 [.var 0, .lit (.int 4)], .op .add (.lit (.int 1)) (.call 0 [.var 0, .lit (.int 2)]), .call 46 [.var 0, .lst [.lit (.int 0), .lit (.int 1), .lit (.int 2), .lit (.int 9), .lit (.int 9)]]])]
def f__law_limits : Fd := ⟨"_law_limits", 1, 1, b__law_limits⟩
def b__law_heat : List Sm := [.ret (.ite (.cmp .gt (.ix (.var 2) (.lit (.int 2))) (.lit (.int 0))) (.op .add (.var 1) (.ix (.var 2) (.lit (.int 2)))) (.bi .max2 [.lit (.int 0), .op .sub (.var 1) (.ix (.var 0) (.lit (.int 1)))]))]
def f__law_heat : Fd := ⟨"_law_heat", 3, 3, b__law_heat⟩
def e__law_may_be_set_1 : E := .lc [3] (.one 3) .seq [.call 862 [.var 0, .ix (.ix (.var 2) (.lit (.int 0))) (.lit (.int 2))]] [.cmp .le (.call 955 [.var 1, .ix (.var 2) (.lit (.int 1)), .var 3]) (.ix (.var 1) (.lit (.int 0)))] (.var 3)
def b__law_may_be_set : List Sm := [.ret (e__law_may_be_set_1)]
def f__law_may_be_set : Fd := ⟨"_law_may_be_set", 3, 4, b__law_may_be_set⟩
def b__law_worn_behind : List Sm := [.asg (.tup [5, 6]) (.tup [.call 90 [.var 0, .ix (.ix (.var 2) (.lit (.int 0))) (.lit (.int 0)), .var 3, .var 4], .ix (.var 2) (.lit (.int 2))]), .ite (.and [.cmp .lt (.ix (.var 1) (.lit (.int 2))) (.lit (.int 9)), .cmp .eq (.var 4) (.ix (.ix (.var 0) (.lit (.int 1))) (.lit (.int 0)))]) [.asg (.one 6) (.op .sub (.var 6) (.ix (.var 3) (.lit (.int 0))))] [], .ret (.ite (.and [.cmp .le (.var 5) (.ix (.var 0) (.lit (.int 0))), .cmp .ge (.var 6) (.lit (.int 0))]) (.tup [.tup [.var 5, .var 4, .var 3], .call 955 [.var 1, .ix (.var 2) (.lit (.int 1)), .var 3], .var 6]) (.lit .non))]
def f__law_worn_behind : Fd := ⟨"_law_worn_behind", 5, 7, b__law_worn_behind⟩
-- not in the small language yet: _law_worn_ways
def b__law_worn_ways : List Sm := [.never]
def f__law_worn_ways : Fd := ⟨"_law_worn_ways", 3, 8, b__law_worn_ways⟩
def b__law_is_worn : List Sm := [.ite (.or [.not (.bi (.isi "tuple") [.var 2]), .cmp .ne (.bi .len [.var 2]) (.lit (.int 3)), .not (.call 902 [.var 0, .ix (.var 2) (.lit (.int 0))])]) [.ret (.lit (.bl false))] [], .ret (.and [.call 231 [.ix (.var 2) (.lit (.int 1)), .lit (.int 0), .ix (.var 1) (.lit (.int 0))], .call 231 [.ix (.var 2) (.lit (.int 2)), .lit (.int 0), .ix (.var 1) (.lit (.int 2))]])]
def f__law_is_worn : Fd := ⟨"_law_is_worn", 3, 3, b__law_is_worn⟩
-- not in the small language yet: _law_all_worn
def b__law_all_worn : List Sm := [.never]
def f__law_all_worn : Fd := ⟨"_law_all_worn", 3, 9, b__law_all_worn⟩
def e__law_ranks_v2_1 : E := .lc [6] (.one 6) .seq [.var 8] [] (.cmp .isIn (.var 6) (.var 1))
def e__law_ranks_v2_2 : E := .lc [7, 8, 9] (.tup [7, 8, 9]) .seq [.ix (.var 0) (.var 5)] [] (.or [.var 9, .bi .any [e__law_ranks_v2_1]])
def l__law_ranks_v2_1 : List Sm := [.ite (.and [.cmp .notIn (.var 5) (.var 1), .bi .all [e__law_ranks_v2_2]]) [.expr (.app (.var 4) (.var 5))] []]
def s__law_ranks_v2_1 : Sm := .for_ (.one 5) .seq [.var 0] l__law_ranks_v2_1
def l__law_ranks_v2_2 : List Sm := [.setIx (.var 1) (.var 5) (.var 2)]
def s__law_ranks_v2_2 : Sm := .for_ (.one 5) .seq [.var 4] l__law_ranks_v2_2
def l__law_ranks_v2_3 : List Sm := [.asg (.one 4) (.lst []), s__law_ranks_v2_1, s__law_ranks_v2_2, .asg (.tup [2, 3]) (.tup [.op .add (.var 2) (.lit (.int 1)), .cmp .ne (.var 4) (.lst [])])]
def s__law_ranks_v2_3 : Sm := .whl (.var 3) l__law_ranks_v2_3
def b__law_ranks_v2 : List Sm := [.asg (.tup [1, 2, 3]) (.tup [.dic [] [], .lit (.int 0), .lit (.bl true)]), s__law_ranks_v2_3, .ret (.var 1)]
def f__law_ranks_v2 : Fd := ⟨"_law_ranks", 1, 10, b__law_ranks_v2⟩
-- not in the small language yet: _law_are_rows
def b__law_are_rows : List Sm := [.never]
def f__law_are_rows : Fd := ⟨"_law_are_rows", 2, 4, b__law_are_rows⟩
-- not in the small language yet: _law_is_paper
def b__law_is_paper : List Sm := [.never]
def f__law_is_paper : Fd := ⟨"_law_is_paper", 4, 14, b__law_is_paper⟩
def b__law_pair : List Sm := [.asg (.tup [2, 3]) (.tup [.call 860 [.var 0, .var 1, .lit (.int 1)], .call 860 [.var 0, .var 1, .lit (.int 1)]]), .ret (.tup [.var 2, .op .add (.tup [.ix (.var 3) (.lit (.int 0)), .ix (.var 2) (.lit (.int 1))]) (.slc (.var 3) (some (.lit (.int 2))) none)])]
def f__law_pair : Fd := ⟨"_law_pair", 2, 4, b__law_pair⟩
def e__law_two_1 : E := .lc [3] (.one 3) .seq [.var 1] [] (.tup [.call 0 [.var 0, .op .add (.ix (.var 3) (.lit (.int 0))) (.lit (.int 1))], .var 2, .call 46 [.var 0, .call 861 [.var 3]]])
def b__law_two : List Sm := [.asg (.one 2) (.call 0 [.var 0, .op .add (.ix (.ix (.ix (.var 1) (.lit (.int 0))) (.lit (.int 1))) (.lit (.int 0))) (.lit (.int 1))]), .ret (.bi .tuple [e__law_two_1])]
def f__law_two : Fd := ⟨"_law_two", 2, 4, b__law_two⟩
def e__law_helps_1 : E := .lc [4] (.one 4) .seq [.call 862 [.ix (.var 0) (.var 3), .ix (.ix (.var 1) (.var 3)) (.lit (.int 2))]] [] (.tup [.var 3, .var 4])
def l__law_helps_1 : List Sm := [.expr (.ext (.var 2) (e__law_helps_1))]
def s__law_helps_1 : Sm := .for_ (.one 3) .seq [.tup [.lit (.int 0), .lit (.int 1)]] l__law_helps_1
def b__law_helps : List Sm := [.asg (.one 2) (.lst []), s__law_helps_1, .ret (.var 2)]
def f__law_helps : Fd := ⟨"_law_helps", 2, 5, b__law_helps⟩
-- not in the small language yet: _law_come_v3
def b__law_come_v3 : List Sm := [.never]
def f__law_come_v3 : Fd := ⟨"_law_come", 3, 9, b__law_come_v3⟩
-- not in the small language yet: _law_is_two
def b__law_is_two : List Sm := [.never]
def f__law_is_two : Fd := ⟨"_law_is_two", 2, 4, b__law_is_two⟩
def e__law_two_ways_1 : E := .lc [2] (.one 2) .seq [.call 987 [.var 0, .var 1]] [] (.op .add (.tup [.var 2]) (.call 988 [.var 0, .var 1, .var 2]))
def b__law_two_ways : List Sm := [.ret (e__law_two_ways_1)]
def f__law_two_ways : Fd := ⟨"_law_two_ways", 2, 3, b__law_two_ways⟩
def b__law_least_v2 : List Sm := [.asg (.one 2) (.call 911 [.var 0, .var 1]), .ret (.tup [.op .fdiv (.var 0) (.var 2), .op .fdiv (.var 1) (.var 2)])]
def f__law_least_v2 : Fd := ⟨"_law_least", 2, 3, b__law_least_v2⟩
def b__law_ratio : List Sm := [.asg (.one 1) (.call 46 [.var 0, .lst [.lit (.int 40), .lit (.int 300), .op .pow (.lit (.int 10)) (.lit (.int 6))]]), .ret (.tup [.op .add (.lit (.int 1)) (.call 0 [.var 0, .var 1]), .op .add (.lit (.int 1)) (.call 0 [.var 0, .var 1])])]
def f__law_ratio : Fd := ⟨"_law_ratio", 1, 2, b__law_ratio⟩
def e__law_drawn_winds_v2_1 : E := .lc [6] (.one 6) .rng1 [.op .add (.ix (.ix (.var 1) (.lit (.int 1))) (.lit (.int 0))) (.lit (.int 1))] [.cmp .le (.bi .abs [.op .sub (.var 6) (.var 2)]) (.ix (.ix (.var 1) (.lit (.int 1))) (.lit (.int 1)))] (.var 6)
def l__law_drawn_winds_v2_1 : List Sm := [.asg (.one 2) (.call 46 [.var 0, e__law_drawn_winds_v2_1]), .expr (.app (.var 4) (.var 2))]
def s__law_drawn_winds_v2_1 : Sm := .for_ (.one 5) .rng1 [.var 3] l__law_drawn_winds_v2_1
def b__law_drawn_winds_v2 : List Sm := [.asg (.one 4) (.lst []), s__law_drawn_winds_v2_1, .ret (.bi .tuple [.var 4])]
def f__law_drawn_winds_v2 : Fd := ⟨"_law_drawn_winds", 4, 7, b__law_drawn_winds_v2⟩
def l__law_winds_v2_1 : List Sm := [.asg (.one 2) (.call 46 [.var 0, .call 89 [.var 1, .var 2]]), .expr (.app (.var 4) (.var 2))]
def s__law_winds_v2_1 : Sm := .for_ (.one 5) .rng1 [.var 3] l__law_winds_v2_1
def b__law_winds_v2 : List Sm := [.asg (.one 4) (.lst []), s__law_winds_v2_1, .ret (.bi .tuple [.var 4])]
def f__law_winds_v2 : Fd := ⟨"_law_winds", 4, 6, b__law_winds_v2⟩
def b__law_deed : List Sm := [.ite (.and [.cmp .gt (.var 2) (.lit (.int 1)), .cmp .lt (.call 0 [.var 0, .lit (.int 10)]) (.lit (.int 2))]) [.ret (.tup [.lit (.str "undo"), .bi .int [.op .add (.lit (.int 1)) (.call 0 [.var 0, .op .sub (.var 2) (.lit (.int 1))])]])] [], .ret (.tup [.lit (.str "tick"), .call 61 [.var 1, .call 46 [.var 0, .call 58 [.ix (.var 1) (.lit (.str "mill"))]]], .bi .int [.call 0 [.var 0, .op .add (.ix (.ix (.ix (.var 1) (.lit (.str "mill"))) (.lit (.int 1))) (.lit (.int 0))) (.lit (.int 1))]]])]
def f__law_deed : Fd := ⟨"_law_deed", 3, 3, b__law_deed⟩
-- not in the small language yet: _law_counting
def b__law_counting : List Sm := [.never]
def f__law_counting : Fd := ⟨"_law_counting", 1, 3, b__law_counting⟩
-- not in the small language yet: _law_now
def b__law_now : List Sm := [.never]
def f__law_now : Fd := ⟨"_law_now", 2, 13, b__law_now⟩
-- not in the small language yet: _law_kind
def b__law_kind : List Sm := [.never]
def f__law_kind : Fd := ⟨"_law_kind", 1, 2, b__law_kind⟩
-- not in the small language yet: _law_start
def b__law_start : List Sm := [.never]
def f__law_start : Fd := ⟨"_law_start", 1, 4, b__law_start⟩
-- not in the small language yet: _law_task
def b__law_task : List Sm := [.never]
def f__law_task : Fd := ⟨"_law_task", 3, 8, b__law_task⟩
-- not in the small language yet: _law_all_v2
def b__law_all_v2 : List Sm := [.never]
def f__law_all_v2 : Fd := ⟨"_law_all", 1, 1, b__law_all_v2⟩
def c_lawc : Tab := [(46, f__law_of), (47, f__law_cells), (55, f__law_some), (56, f__law_caught), (57, f__law_mill), (58, f__law_trims), (59, f__law_states), (60, f__law_own), (61, f__law_setting), (62, f__law_text), (87, f__law_way), (88, f__law_near), (89, f__law_airs), (90, f__law_speed), (91, f__law_sacks), (111, f__law_closed), (197, f__law_airs_row), (231, f__law_is_int), (232, f__law_are_ints), (233, f__law_mill_v2), (234, f__law_trims_v2), (235, f__law_is_near), (236, f__law_near_v2), (237, f__law_winds), (238, f__law_come_v2), (239, f__law_states_v2), (240, f__law_state), (241, f__law_is_trim), (242, f__law_is_state), (243, f__law_is_good), (244, f__law_ranks), (245, f__law_rising), (246, f__law_are_pages), (247, f__law_is_book), (248, f__law_is_storm), (249, f__law_has), (250, f__law_odd_v2), (251, f__law_bent_v2), (261, f__law_some_v2), (262, f__law_cells_v2), (263, f__law_heard), (273, f__law_blown), (334, f__law_first), (335, f__law_shown_mill), (336, f__law_shown_state), (337, f__law_shown_trim), (347, f__law_sure), (363, f__law_all_winds), (391, f__law_change), (392, f__law_flours), (395, f__law_need), (506, f__law_governor), (858, f__law_odd_v3), (859, f__law_bent_v3), (860, f__law_mill_v3), (861, f__law_trims_v3), (862, f__law_near_v3), (863, f__law_state_v2), (864, f__law_drawn_winds), (873, f__law_most), (874, f__law_with_v2), (875, f__law_sure_v2), (876, f__law_rank_v2), (883, f__law_rows), (897, f__law_caught_v2), (900, f__law_is_mill), (901, f__law_is_trim_v2), (902, f__law_is_state_v2), (903, f__law_some_mill), (911, f__law_gcd), (912, f__law_fraction), (913, f__law_plus), (914, f__law_share), (915, f__law_chances_v2), (926, f__law_states_v3), (927, f__law_comes), (928, f__law_is_bet), (929, f__law_gone), (930, f__law_drawn_bet), (931, f__law_best_v2), (954, f__law_limits), (955, f__law_heat), (956, f__law_may_be_set), (957, f__law_worn_behind), (958, f__law_worn_ways), (959, f__law_is_worn), (967, f__law_all_worn), (968, f__law_ranks_v2), (969, f__law_are_rows), (970, f__law_is_paper), (985, f__law_pair), (986, f__law_two), (987, f__law_helps), (988, f__law_come_v3), (989, f__law_is_two), (996, f__law_two_ways), (1043, f__law_least_v2), (1044, f__law_ratio), (1113, f__law_drawn_winds_v2), (1171, f__law_winds_v2), (1249, f__law_deed), (1250, f__law_counting), (1251, f__law_now), (1267, f__law_kind), (1268, f__law_start), (1269, f__law_task), (1271, f__law_all_v2)]
theorem at__law_of {X : Tx} (h : Has X c_lawc) : X.T 46 = some f__law_of := h.at_ (i := 0) rfl
theorem at__law_cells {X : Tx} (h : Has X c_lawc) : X.T 47 = some f__law_cells := h.at_ (i := 1) rfl
theorem at__law_some {X : Tx} (h : Has X c_lawc) : X.T 55 = some f__law_some := h.at_ (i := 2) rfl
theorem at__law_caught {X : Tx} (h : Has X c_lawc) : X.T 56 = some f__law_caught := h.at_ (i := 3) rfl
theorem at__law_mill {X : Tx} (h : Has X c_lawc) : X.T 57 = some f__law_mill := h.at_ (i := 4) rfl
theorem at__law_trims {X : Tx} (h : Has X c_lawc) : X.T 58 = some f__law_trims := h.at_ (i := 5) rfl
theorem at__law_states {X : Tx} (h : Has X c_lawc) : X.T 59 = some f__law_states := h.at_ (i := 6) rfl
theorem at__law_own {X : Tx} (h : Has X c_lawc) : X.T 60 = some f__law_own := h.at_ (i := 7) rfl
theorem at__law_setting {X : Tx} (h : Has X c_lawc) : X.T 61 = some f__law_setting := h.at_ (i := 8) rfl
theorem at__law_text {X : Tx} (h : Has X c_lawc) : X.T 62 = some f__law_text := h.at_ (i := 9) rfl
theorem at__law_way {X : Tx} (h : Has X c_lawc) : X.T 87 = some f__law_way := h.at_ (i := 10) rfl
theorem at__law_near {X : Tx} (h : Has X c_lawc) : X.T 88 = some f__law_near := h.at_ (i := 11) rfl
theorem at__law_airs {X : Tx} (h : Has X c_lawc) : X.T 89 = some f__law_airs := h.at_ (i := 12) rfl
theorem at__law_speed {X : Tx} (h : Has X c_lawc) : X.T 90 = some f__law_speed := h.at_ (i := 13) rfl
theorem at__law_sacks {X : Tx} (h : Has X c_lawc) : X.T 91 = some f__law_sacks := h.at_ (i := 14) rfl
theorem at__law_closed {X : Tx} (h : Has X c_lawc) : X.T 111 = some f__law_closed := h.at_ (i := 15) rfl
theorem at__law_airs_row {X : Tx} (h : Has X c_lawc) : X.T 197 = some f__law_airs_row := h.at_ (i := 16) rfl
theorem at__law_is_int {X : Tx} (h : Has X c_lawc) : X.T 231 = some f__law_is_int := h.at_ (i := 17) rfl
theorem at__law_are_ints {X : Tx} (h : Has X c_lawc) : X.T 232 = some f__law_are_ints := h.at_ (i := 18) rfl
theorem at__law_mill_v2 {X : Tx} (h : Has X c_lawc) : X.T 233 = some f__law_mill_v2 := h.at_ (i := 19) rfl
theorem at__law_trims_v2 {X : Tx} (h : Has X c_lawc) : X.T 234 = some f__law_trims_v2 := h.at_ (i := 20) rfl
theorem at__law_is_near {X : Tx} (h : Has X c_lawc) : X.T 235 = some f__law_is_near := h.at_ (i := 21) rfl
theorem at__law_near_v2 {X : Tx} (h : Has X c_lawc) : X.T 236 = some f__law_near_v2 := h.at_ (i := 22) rfl
theorem at__law_winds {X : Tx} (h : Has X c_lawc) : X.T 237 = some f__law_winds := h.at_ (i := 23) rfl
theorem at__law_come_v2 {X : Tx} (h : Has X c_lawc) : X.T 238 = some f__law_come_v2 := h.at_ (i := 24) rfl
theorem at__law_states_v2 {X : Tx} (h : Has X c_lawc) : X.T 239 = some f__law_states_v2 := h.at_ (i := 25) rfl
theorem at__law_state {X : Tx} (h : Has X c_lawc) : X.T 240 = some f__law_state := h.at_ (i := 26) rfl
theorem at__law_is_trim {X : Tx} (h : Has X c_lawc) : X.T 241 = some f__law_is_trim := h.at_ (i := 27) rfl
theorem at__law_is_state {X : Tx} (h : Has X c_lawc) : X.T 242 = some f__law_is_state := h.at_ (i := 28) rfl
theorem at__law_is_good {X : Tx} (h : Has X c_lawc) : X.T 243 = some f__law_is_good := h.at_ (i := 29) rfl
theorem at__law_ranks {X : Tx} (h : Has X c_lawc) : X.T 244 = some f__law_ranks := h.at_ (i := 30) rfl
theorem at__law_rising {X : Tx} (h : Has X c_lawc) : X.T 245 = some f__law_rising := h.at_ (i := 31) rfl
theorem at__law_are_pages {X : Tx} (h : Has X c_lawc) : X.T 246 = some f__law_are_pages := h.at_ (i := 32) rfl
theorem at__law_is_book {X : Tx} (h : Has X c_lawc) : X.T 247 = some f__law_is_book := h.at_ (i := 33) rfl
theorem at__law_is_storm {X : Tx} (h : Has X c_lawc) : X.T 248 = some f__law_is_storm := h.at_ (i := 34) rfl
theorem at__law_has {X : Tx} (h : Has X c_lawc) : X.T 249 = some f__law_has := h.at_ (i := 35) rfl
theorem at__law_odd_v2 {X : Tx} (h : Has X c_lawc) : X.T 250 = some f__law_odd_v2 := h.at_ (i := 36) rfl
theorem at__law_bent_v2 {X : Tx} (h : Has X c_lawc) : X.T 251 = some f__law_bent_v2 := h.at_ (i := 37) rfl
theorem at__law_some_v2 {X : Tx} (h : Has X c_lawc) : X.T 261 = some f__law_some_v2 := h.at_ (i := 38) rfl
theorem at__law_cells_v2 {X : Tx} (h : Has X c_lawc) : X.T 262 = some f__law_cells_v2 := h.at_ (i := 39) rfl
theorem at__law_heard {X : Tx} (h : Has X c_lawc) : X.T 263 = some f__law_heard := h.at_ (i := 40) rfl
theorem at__law_blown {X : Tx} (h : Has X c_lawc) : X.T 273 = some f__law_blown := h.at_ (i := 41) rfl
theorem at__law_first {X : Tx} (h : Has X c_lawc) : X.T 334 = some f__law_first := h.at_ (i := 42) rfl
theorem at__law_shown_mill {X : Tx} (h : Has X c_lawc) : X.T 335 = some f__law_shown_mill := h.at_ (i := 43) rfl
theorem at__law_shown_state {X : Tx} (h : Has X c_lawc) : X.T 336 = some f__law_shown_state := h.at_ (i := 44) rfl
theorem at__law_shown_trim {X : Tx} (h : Has X c_lawc) : X.T 337 = some f__law_shown_trim := h.at_ (i := 45) rfl
theorem at__law_sure {X : Tx} (h : Has X c_lawc) : X.T 347 = some f__law_sure := h.at_ (i := 46) rfl
theorem at__law_all_winds {X : Tx} (h : Has X c_lawc) : X.T 363 = some f__law_all_winds := h.at_ (i := 47) rfl
theorem at__law_change {X : Tx} (h : Has X c_lawc) : X.T 391 = some f__law_change := h.at_ (i := 48) rfl
theorem at__law_flours {X : Tx} (h : Has X c_lawc) : X.T 392 = some f__law_flours := h.at_ (i := 49) rfl
theorem at__law_need {X : Tx} (h : Has X c_lawc) : X.T 395 = some f__law_need := h.at_ (i := 50) rfl
theorem at__law_governor {X : Tx} (h : Has X c_lawc) : X.T 506 = some f__law_governor := h.at_ (i := 51) rfl
theorem at__law_odd_v3 {X : Tx} (h : Has X c_lawc) : X.T 858 = some f__law_odd_v3 := h.at_ (i := 52) rfl
theorem at__law_bent_v3 {X : Tx} (h : Has X c_lawc) : X.T 859 = some f__law_bent_v3 := h.at_ (i := 53) rfl
theorem at__law_mill_v3 {X : Tx} (h : Has X c_lawc) : X.T 860 = some f__law_mill_v3 := h.at_ (i := 54) rfl
theorem at__law_trims_v3 {X : Tx} (h : Has X c_lawc) : X.T 861 = some f__law_trims_v3 := h.at_ (i := 55) rfl
theorem at__law_near_v3 {X : Tx} (h : Has X c_lawc) : X.T 862 = some f__law_near_v3 := h.at_ (i := 56) rfl
theorem at__law_state_v2 {X : Tx} (h : Has X c_lawc) : X.T 863 = some f__law_state_v2 := h.at_ (i := 57) rfl
theorem at__law_drawn_winds {X : Tx} (h : Has X c_lawc) : X.T 864 = some f__law_drawn_winds := h.at_ (i := 58) rfl
theorem at__law_most {X : Tx} (h : Has X c_lawc) : X.T 873 = some f__law_most := h.at_ (i := 59) rfl
theorem at__law_with_v2 {X : Tx} (h : Has X c_lawc) : X.T 874 = some f__law_with_v2 := h.at_ (i := 60) rfl
theorem at__law_sure_v2 {X : Tx} (h : Has X c_lawc) : X.T 875 = some f__law_sure_v2 := h.at_ (i := 61) rfl
theorem at__law_rank_v2 {X : Tx} (h : Has X c_lawc) : X.T 876 = some f__law_rank_v2 := h.at_ (i := 62) rfl
theorem at__law_rows {X : Tx} (h : Has X c_lawc) : X.T 883 = some f__law_rows := h.at_ (i := 63) rfl
theorem at__law_caught_v2 {X : Tx} (h : Has X c_lawc) : X.T 897 = some f__law_caught_v2 := h.at_ (i := 64) rfl
theorem at__law_is_mill {X : Tx} (h : Has X c_lawc) : X.T 900 = some f__law_is_mill := h.at_ (i := 65) rfl
theorem at__law_is_trim_v2 {X : Tx} (h : Has X c_lawc) : X.T 901 = some f__law_is_trim_v2 := h.at_ (i := 66) rfl
theorem at__law_is_state_v2 {X : Tx} (h : Has X c_lawc) : X.T 902 = some f__law_is_state_v2 := h.at_ (i := 67) rfl
theorem at__law_some_mill {X : Tx} (h : Has X c_lawc) : X.T 903 = some f__law_some_mill := h.at_ (i := 68) rfl
theorem at__law_gcd {X : Tx} (h : Has X c_lawc) : X.T 911 = some f__law_gcd := h.at_ (i := 69) rfl
theorem at__law_fraction {X : Tx} (h : Has X c_lawc) : X.T 912 = some f__law_fraction := h.at_ (i := 70) rfl
theorem at__law_plus {X : Tx} (h : Has X c_lawc) : X.T 913 = some f__law_plus := h.at_ (i := 71) rfl
theorem at__law_share {X : Tx} (h : Has X c_lawc) : X.T 914 = some f__law_share := h.at_ (i := 72) rfl
theorem at__law_chances_v2 {X : Tx} (h : Has X c_lawc) : X.T 915 = some f__law_chances_v2 := h.at_ (i := 73) rfl
theorem at__law_states_v3 {X : Tx} (h : Has X c_lawc) : X.T 926 = some f__law_states_v3 := h.at_ (i := 74) rfl
theorem at__law_comes {X : Tx} (h : Has X c_lawc) : X.T 927 = some f__law_comes := h.at_ (i := 75) rfl
theorem at__law_is_bet {X : Tx} (h : Has X c_lawc) : X.T 928 = some f__law_is_bet := h.at_ (i := 76) rfl
theorem at__law_gone {X : Tx} (h : Has X c_lawc) : X.T 929 = some f__law_gone := h.at_ (i := 77) rfl
theorem at__law_drawn_bet {X : Tx} (h : Has X c_lawc) : X.T 930 = some f__law_drawn_bet := h.at_ (i := 78) rfl
theorem at__law_best_v2 {X : Tx} (h : Has X c_lawc) : X.T 931 = some f__law_best_v2 := h.at_ (i := 79) rfl
theorem at__law_limits {X : Tx} (h : Has X c_lawc) : X.T 954 = some f__law_limits := h.at_ (i := 80) rfl
theorem at__law_heat {X : Tx} (h : Has X c_lawc) : X.T 955 = some f__law_heat := h.at_ (i := 81) rfl
theorem at__law_may_be_set {X : Tx} (h : Has X c_lawc) : X.T 956 = some f__law_may_be_set := h.at_ (i := 82) rfl
theorem at__law_worn_behind {X : Tx} (h : Has X c_lawc) : X.T 957 = some f__law_worn_behind := h.at_ (i := 83) rfl
theorem at__law_worn_ways {X : Tx} (h : Has X c_lawc) : X.T 958 = some f__law_worn_ways := h.at_ (i := 84) rfl
theorem at__law_is_worn {X : Tx} (h : Has X c_lawc) : X.T 959 = some f__law_is_worn := h.at_ (i := 85) rfl
theorem at__law_all_worn {X : Tx} (h : Has X c_lawc) : X.T 967 = some f__law_all_worn := h.at_ (i := 86) rfl
theorem at__law_ranks_v2 {X : Tx} (h : Has X c_lawc) : X.T 968 = some f__law_ranks_v2 := h.at_ (i := 87) rfl
theorem at__law_are_rows {X : Tx} (h : Has X c_lawc) : X.T 969 = some f__law_are_rows := h.at_ (i := 88) rfl
theorem at__law_is_paper {X : Tx} (h : Has X c_lawc) : X.T 970 = some f__law_is_paper := h.at_ (i := 89) rfl
theorem at__law_pair {X : Tx} (h : Has X c_lawc) : X.T 985 = some f__law_pair := h.at_ (i := 90) rfl
theorem at__law_two {X : Tx} (h : Has X c_lawc) : X.T 986 = some f__law_two := h.at_ (i := 91) rfl
theorem at__law_helps {X : Tx} (h : Has X c_lawc) : X.T 987 = some f__law_helps := h.at_ (i := 92) rfl
theorem at__law_come_v3 {X : Tx} (h : Has X c_lawc) : X.T 988 = some f__law_come_v3 := h.at_ (i := 93) rfl
theorem at__law_is_two {X : Tx} (h : Has X c_lawc) : X.T 989 = some f__law_is_two := h.at_ (i := 94) rfl
theorem at__law_two_ways {X : Tx} (h : Has X c_lawc) : X.T 996 = some f__law_two_ways := h.at_ (i := 95) rfl
theorem at__law_least_v2 {X : Tx} (h : Has X c_lawc) : X.T 1043 = some f__law_least_v2 := h.at_ (i := 96) rfl
theorem at__law_ratio {X : Tx} (h : Has X c_lawc) : X.T 1044 = some f__law_ratio := h.at_ (i := 97) rfl
theorem at__law_drawn_winds_v2 {X : Tx} (h : Has X c_lawc) : X.T 1113 = some f__law_drawn_winds_v2 := h.at_ (i := 98) rfl
theorem at__law_winds_v2 {X : Tx} (h : Has X c_lawc) : X.T 1171 = some f__law_winds_v2 := h.at_ (i := 99) rfl
theorem at__law_deed {X : Tx} (h : Has X c_lawc) : X.T 1249 = some f__law_deed := h.at_ (i := 100) rfl
theorem at__law_counting {X : Tx} (h : Has X c_lawc) : X.T 1250 = some f__law_counting := h.at_ (i := 101) rfl
theorem at__law_now {X : Tx} (h : Has X c_lawc) : X.T 1251 = some f__law_now := h.at_ (i := 102) rfl
theorem at__law_kind {X : Tx} (h : Has X c_lawc) : X.T 1267 = some f__law_kind := h.at_ (i := 103) rfl
theorem at__law_start {X : Tx} (h : Has X c_lawc) : X.T 1268 = some f__law_start := h.at_ (i := 104) rfl
theorem at__law_task {X : Tx} (h : Has X c_lawc) : X.T 1269 = some f__law_task := h.at_ (i := 105) rfl
theorem at__law_all_v2 {X : Tx} (h : Has X c_lawc) : X.T 1271 = some f__law_all_v2 := h.at_ (i := 106) rfl
end Pr

end
section
set_option Elab.async false
set_option linter.all false
set_option maxRecDepth 100000
set_option maxHeartbeats 1000000
/-! What many laws share: drawing, strange values, bent values. -/
namespace Pr
open PySem L2 Mi Pv
/-! ### sizes of rows of values -/
structure Bw (w d r : Nat) (u : U) : Prop where
  w : wt u.toP ≤ w
  d : u.toP.depth ≤ d
  r : u.rd ≤ r
structure Bl (w d r : Nat) (us : List U) : Prop where
  w : wts (U.toPs us) ≤ w
  d : PyData.depthAll (U.toPs us) ≤ d
  r : U.rds us ≤ r
theorem Bw.mono {w d r w' d' r' : Nat} {u : U} (h : Bw w d r u) (h1 : w ≤ w') (h2 : d ≤ d') (h3 : r ≤ r') : Bw w' d' r' u := ⟨Nat.le_trans h.w h1, Nat.le_trans h.d h2, Nat.le_trans h.r h3⟩
theorem Bl.mono {w d r w' d' r' : Nat} {u : List U} (h : Bl w d r u) (h1 : w ≤ w') (h2 : d ≤ d') (h3 : r ≤ r') : Bl w' d' r' u := ⟨Nat.le_trans h.w h1, Nat.le_trans h.d h2, Nat.le_trans h.r h3⟩
theorem Bw.rp {w d r : Nat} {u : U} (h : Bw w d r u) (h1 : w < 10 ^ 6) (h2 : d ≤ 40) (h3 : r ≤ 8) : Rp u := ⟨⟨Nat.lt_of_le_of_lt h.w h1, Nat.le_trans h.d h2⟩, Nat.le_trans h.r h3⟩
theorem Bl.nil {w d r : Nat} : Bl w d r [] := ⟨by rw [U.toPs]; exact Nat.zero_le _, by rw [U.toPs]; exact Nat.zero_le _, by rw [U.rds]; exact Nat.zero_le _⟩
theorem Bl.cons {w1 w2 w d r : Nat} {u : U} {us : List U} (a : Bw w1 d r u) (b : Bl w2 d r us) (h : w1 + 2 + w2 ≤ w) : Bl w d r (u :: us) := by
  have := a.w; have := b.w; have := a.d; have := b.d; have := a.r; have := b.r
  exact ⟨by rw [U.toPs, wts]; omega, by rw [U.toPs, PyData.depthAll]; omega, by rw [U.rds]; omega⟩
theorem Bl.app {w1 w2 w d r : Nat} {us vs : List U} (a : Bl w1 d r us) (b : Bl w2 d r vs) (h : w1 + w2 ≤ w) : Bl w d r (us ++ vs) := by
  induction us generalizing w1 w with
  | nil => exact b.mono (by omega) (Nat.le_refl _) (Nat.le_refl _)
  | cons u us ih =>
    have h1 := a.w; have h2 := a.d; have h3 := a.r
    rw [U.toPs, wts] at h1
    rw [U.toPs, PyData.depthAll] at h2
    rw [U.rds] at h3
    exact Bl.cons (w1 := wt u.toP) (w2 := wts (U.toPs us) + w2) ⟨Nat.le_refl _, by omega, by omega⟩ (ih (w1 := wts (U.toPs us)) ⟨Nat.le_refl _, by omega, by omega⟩ (Nat.le_refl _)) (by omega)
theorem Bl.tl {w d r : Nat} {u : U} {us : List U} (a : Bl w d r (u :: us)) : Bl w d r us := by
  have h1 := a.w; have h2 := a.d; have h3 := a.r
  rw [U.toPs, wts] at h1
  rw [U.toPs, PyData.depthAll] at h2
  rw [U.rds] at h3
  exact ⟨by omega, by omega, by omega⟩
theorem Bl.hd {w d r : Nat} {u : U} {us : List U} (a : Bl w d r (u :: us)) : Bw w d r u := by
  have h1 := a.w; have h2 := a.d; have h3 := a.r
  rw [U.toPs, wts] at h1
  rw [U.toPs, PyData.depthAll] at h2
  rw [U.rds] at h3
  exact ⟨by omega, by omega, by omega⟩
theorem Bl.mem {w d r : Nat} {u : U} : ∀ {us : List U}, Bl w d r us → u ∈ us → Bw w d r u
  | v :: us, a, h => by
    rcases List.mem_cons.mp h with rfl | h
    · exact a.hd
    · exact a.tl.mem h
theorem Bl.take {w d r : Nat} : ∀ {us : List U} (n : Nat), Bl w d r us → Bl w d r (us.take n)
  | _, 0, _ => by rw [List.take_zero]; exact Bl.nil
  | [], n + 1, a => a
  | u :: us, n + 1, a => by
    have h1 := a.w; have h2 := a.d; have h3 := a.r
    rw [U.toPs, wts] at h1
    rw [U.toPs, PyData.depthAll] at h2
    rw [U.rds] at h3
    rw [List.take_succ_cons]
    exact Bl.cons (w1 := wt u.toP) (w2 := wts (U.toPs us)) ⟨Nat.le_refl _, by omega, by omega⟩ (Bl.take n ⟨Nat.le_refl _, by omega, by omega⟩) (by omega)
theorem Bl.drop {w d r : Nat} : ∀ {us : List U} (n : Nat), Bl w d r us → Bl w d r (us.drop n)
  | _, 0, a => a
  | [], n + 1, a => a
  | u :: us, n + 1, a => by rw [List.drop_succ_cons]; exact a.tl.drop n
theorem wts_app (as bs : List PyData) : wts (as ++ bs) = wts as + wts bs := by
  induction as with
  | nil => simp [wts]
  | cons a as ih => rw [List.cons_append, wts, wts, ih]; omega
theorem wts_rev (as : List PyData) : wts as.reverse = wts as := by
  induction as with
  | nil => rfl
  | cons a as ih => rw [List.reverse_cons, wts_app, ih, wts, wts, wts]; omega
theorem Bl.rev {w d r : Nat} {us : List U} (a : Bl w d r us) : Bl w d r us.reverse := by
  refine ⟨by rw [toPs_map', List.map_reverse, wts_rev, ← toPs_map']; exact a.w, ?_, ?_⟩
  · have : ∀ l : List PyData, (∀ p ∈ l, p.depth ≤ d) → PyData.depthAll l ≤ d := fun l => by
      induction l with
      | nil => intro _; exact Nat.zero_le _
      | cons p l ih => intro h; rw [PyData.depthAll]; exact Nat.max_le.mpr ⟨h p List.mem_cons_self, ih fun q hq => h q (List.mem_cons_of_mem _ hq)⟩
    refine this _ fun p hp => ?_
    rw [toPs_map', List.map_reverse] at hp
    obtain ⟨u, hu, rfl⟩ := List.mem_map.mp (List.mem_reverse.mp hp)
    exact (a.mem hu).d
  · have : ∀ l : List U, (∀ p ∈ l, p.rd ≤ r) → U.rds l ≤ r := fun l => by
      induction l with
      | nil => intro _; rw [U.rds]; exact Nat.zero_le _
      | cons p l ih => intro h; rw [U.rds]; exact Nat.max_le.mpr ⟨h p List.mem_cons_self, ih fun q hq => h q (List.mem_cons_of_mem _ hq)⟩
    exact this _ fun p hp => (a.mem (List.mem_reverse.mp hp)).r
theorem Bl.tup {w d r w' d' : Nat} {us : List U} (a : Bl w d r us) (h1 : w + 4 ≤ w') (h2 : d + 1 ≤ d') : Bw w' d' r (.tup us) := by
  have := a.w; have := a.d; have := a.r
  exact ⟨by rw [U.toP, wt]; omega, by rw [U.toP, PyData.depth]; omega, by rw [U.rd]; omega⟩
theorem Bl.lst {w d r w' d' r' : Nat} {us : List U} (a : Bl w d r us) (h1 : w + 4 ≤ w') (h2 : d + 1 ≤ d') (h3 : r + 1 ≤ r') : Bw w' d' r' (.lst us) := by
  have := a.w; have := a.d; have := a.r
  exact ⟨by rw [U.toP, wt]; omega, by rw [U.toP, PyData.depth]; omega, by rw [U.rd]; omega⟩
theorem Bw.of_tup {w d r : Nat} {us : List U} (a : Bw w d r (.tup us)) : Bl w d r us := by
  have h1 := a.w; have h2 := a.d; have h3 := a.r
  rw [U.toP, wt] at h1
  rw [U.toP, PyData.depth] at h2
  rw [U.rd] at h3
  exact ⟨by omega, by omega, by omega⟩
theorem bw_int {i : Int} {w d r : Nat} (h : i.natAbs < 10 ^ 60) (hw : 62 ≤ w) (hd : 1 ≤ d) : Bw w d r (.int i) := ⟨by rw [U.toP, wt, if_pos h]; omega, by rw [U.toP, PyData.depth]; omega, by rw [U.rd]; omega⟩
theorem bw_bl {b : Bool} {w d r : Nat} (hw : 5 ≤ w) (hd : 1 ≤ d) : Bw w d r (.bl b) := ⟨by rw [U.toP, wt]; omega, by rw [U.toP, PyData.depth]; omega, by rw [U.rd]; omega⟩
theorem bw_non {w d r : Nat} (hw : 4 ≤ w) (hd : 1 ≤ d) : Bw w d r .non := ⟨by rw [U.toP, wt]; omega, by rw [U.toP, PyData.depth]; omega, by rw [U.rd]; omega⟩
theorem Gd.bw {n : Nat} {u : U} (h : Gd n u) : Bw (n * 1000) n n u := ⟨by have := h.w; omega, h.d, h.r⟩
/-! ### cuts -/
theorem cut_take {α : Type} {xs : List α} {i : Int} (h0 : 0 ≤ i) : cutU xs none (some i) = xs.take i.toNat := by
  unfold cutU
  have e : HT.sIx xs.length xs.length (some i) = min i.toNat xs.length := by
    show (if i < 0 then (i + (xs.length : Int)).toNat else min i.toNat xs.length) = _
    rw [if_neg (by omega)]
  rw [e]
  show (xs.drop 0).take (min i.toNat xs.length - 0) = _
  rw [List.drop_zero, Nat.sub_zero, ← List.take_take, List.take_length]
theorem cut_drop {α : Type} {xs : List α} {i : Int} (h0 : 0 ≤ i) : cutU xs (some i) none = xs.drop i.toNat := by
  unfold cutU
  have e : HT.sIx xs.length 0 (some i) = min i.toNat xs.length := by
    show (if i < 0 then (i + (xs.length : Int)).toNat else min i.toNat xs.length) = _
    rw [if_neg (by omega)]
  rw [e]
  show (xs.drop (min i.toNat xs.length)).take (xs.length - min i.toNat xs.length) = _
  rcases Nat.le_total i.toNat xs.length with z | z
  · rw [Nat.min_eq_left z, List.take_of_length_le (by rw [List.length_drop]; exact Nat.le_refl _)]
  · rw [Nat.min_eq_right z, List.drop_length, List.drop_of_length_le z, List.take_nil]
theorem cut_last {α : Type} {xs : List α} : cutU xs none (some (-1)) = xs.take (xs.length - 1) := by
  unfold cutU
  have e : HT.sIx xs.length xs.length (some (-1)) = xs.length - 1 := by
    show (if (-1 : Int) < 0 then (-1 + (xs.length : Int)).toNat else min (-1 : Int).toNat xs.length) = _
    rw [if_pos (by omega)]
    omega
  rw [e]
  show (xs.drop 0).take (xs.length - 1 - 0) = _
  rw [List.drop_zero, Nat.sub_zero]
/-! ### pots -/
structure Pot (N : Int) (k : Nat) (P : Ps) : Prop where
  ex : ∃ s, P[k]? = some s ∧ PtOk N s
theorem Pot.mono {N M : Int} {k : Nat} {P : Ps} (h : Pot N k P) (hm : N ≤ M) : Pot M k P := by
  obtain ⟨s, e, h1, h2, h3, h4, h5, h6⟩ := h
  exact ⟨s, e, h1, h2, h3, h4, h5, Int.le_trans h6 hm⟩
section
variable {X : Tx} {n : Nat} {P : Ps} {N : Int} {k : Nat} {Q : U → Ps → Prop}
theorem w_take (hk : TkOk X.tk) {u : Int} (h : Pot N k P) (hN : N ≤ 2 ^ 38) (h1 : 1 ≤ u) (h2 : u < 2 ^ 60) (kk : ∀ (d : Int) P', 0 ≤ d → d < u → Pot (N + 1) k P' → Q (.int d) P') : Wu (calU X (n + 1) 0 [.pot k, .int u] P) Q := by
  obtain ⟨s, e, hs⟩ := h
  obtain ⟨d, s', e2, d0, d1, hs'⟩ := hk.ok N s u hs hN h1 h2
  have e3 : calU X (n + 1) 0 [.pot k, .int u] P = some (.ok (.int d) (P.set k s')) := by
    show (P[k]?).bind (fun s => (X.tk s u).map fun q => Rv.ok (U.int q.1) (P.set k q.2)) = _
    rw [e]
    show (X.tk s u).map _ = _
    rw [e2]
    rfl
  rw [e3, Wu_ok]
  exact kk d _ d0 d1 ⟨s', List.getElem?_set_self (List.getElem?_eq_some_iff.mp e).1, hs'⟩
variable (hL : Has X c_lawc) (hk : TkOk X.tk)
include hL hk
theorem w_of {xs : List U} (h : Pot N k P) (hN : N ≤ 2 ^ 38) (h0 : xs ≠ []) (h1 : xs.length < 2 ^ 59) (kk : ∀ x P', x ∈ xs → Pot (N + 1) k P' → Q x P') : Wu (calU X (n + 2) 46 [.pot k, .lst xs] P) Q := by
  refine Wu_call (F := f__law_of) (by omega) (at__law_of hL) rfl ?_
  have hp : 0 < xs.length := List.length_pos_iff.mpr h0
  simp [f__law_of, b__law_of]
  refine w_take hk h hN (by omega) (by omega) fun d P' d0 d1 hp' => ?_
  obtain ⟨x, e, hx⟩ := atU d0 d1
  simp [e]
  exact kk x P' hx hp'
theorem w_ofT {xs : List U} (h : Pot N k P) (hN : N ≤ 2 ^ 38) (h0 : xs ≠ []) (h1 : xs.length < 2 ^ 59) (kk : ∀ x P', x ∈ xs → Pot (N + 1) k P' → Q x P') : Wu (calU X (n + 2) 46 [.pot k, .tup xs] P) Q := by
  refine Wu_call (F := f__law_of) (by omega) (at__law_of hL) rfl ?_
  have hp : 0 < xs.length := List.length_pos_iff.mpr h0
  simp [f__law_of, b__law_of]
  refine w_take hk h hN (by omega) (by omega) fun d P' d0 d1 hp' => ?_
  obtain ⟨x, e, hx⟩ := atU d0 d1
  simp [e]
  exact kk x P' hx hp'
end
end Pr

end
section
set_option Elab.async false
set_option linter.all false
set_option maxRecDepth 100000
set_option maxHeartbeats 1000000
/-! Strange values and bent values. -/
namespace Pr
open PySem L2 Mi Pv
section
variable {X : Tx} {n : Nat} {P : Ps} {N : Int} {k : Nat} {Q : U → Ps → Prop} (hL : Has X c_lawc) (hk : TkOk X.tk)
include hL
theorem w_cells {ns : List Int} (h : ns.length ≤ 63) : ∃ m : Int, 1 ≤ m ∧ m ≤ 3 ∧ calU X (n + 1) 262 [.frz (ns.map .int), .int 3] P = some (.ok (.lst (rgU 0 m)) P) := by
  refine ⟨if 1 < (if (ns.length : Int) < 3 then (ns.length : Int) else 3) then (if (ns.length : Int) < 3 then (ns.length : Int) else 3) else 1, by split <;> omega, by split <;> split <;> omega, ?_⟩
  rw [call_eq (by omega) (at__law_cells_v2 hL) rfl]
  simp [f__law_cells_v2, b__law_cells_v2, bu_rng1]
  have e0 : 1 ≤ (if 1 < (if (ns.length : Int) < 3 then (ns.length : Int) else 3) then (if (ns.length : Int) < 3 then (ns.length : Int) else 3) else 1) := by split <;> omega
  have e1 : (if 1 < (if (ns.length : Int) < 3 then (ns.length : Int) else 3) then (if (ns.length : Int) < 3 then (ns.length : Int) else 3) else 1) ≤ 3 := by split <;> split <;> omega
  generalize (if 1 < (if (ns.length : Int) < 3 then (ns.length : Int) else 3) then (if (ns.length : Int) < 3 then (ns.length : Int) else 3) else 1) = m at e0 e1 ⊢
  have hr : rgB 0 m = true := rgB_of (by unfold rgOk; omega)
  simp [hr]
/-- an int of bounds -/
def inB (lo hi : Int) : U → Bool
  | .int i => decide (lo ≤ i) && decide (i ≤ hi)
  | _ => false
theorem u_is_int {u : U} {lo hi : Int} (h : isPotU u = false) : calU X (n + 1) 231 [u, .int lo, .int hi] P = some (.ok (.bl (inB lo hi u)) P) := by
  rw [call_eq (by omega) (at__law_is_int hL) rfl]
  simp [f__law_is_int, b__law_is_int, is_int h, is_bool h]
  cases u with
  | int i => by_cases hl : lo ≤ i <;> simp [isIntU, isBlU, inB, hl]
  | _ => simp [isIntU, isBlU, inB]
include hk
theorem w_odd (h : Pot N k P) (hN : N ≤ 2 ^ 38) (kk : ∀ x P', Pot (N + 1) k P' → Gd 5 x → Q x P') : Wu (calU X (n + 3) 858 [.pot k] P) Q := by
  refine Wu_call (F := f__law_odd_v3) (by omega) (at__law_odd_v3 hL) rfl ?_
  have p11 : powB 10 11 = true := powB_of ⟨by decide, by decide, by decide, by decide⟩
  simp [f__law_odd_v3, b__law_odd_v3, p11, size_eq]
  refine w_of hL hk h hN (by simp) (by simp) fun x P' hx hp => kk x P' hp ?_
  simp only [List.mem_cons, List.not_mem_nil, or_false] at hx
  rcases hx with rfl | rfl | rfl | rfl | rfl | rfl | rfl | rfl | rfl | rfl | rfl | rfl | rfl | rfl | rfl | rfl | rfl | rfl | rfl <;> decide +kernel
end
theorem plain_mono : ∀ (n m : Nat) (u : U), n ≤ m → plainU n u = true → plainU m u = true
  | 0, m, u, h, p => by
    cases u <;> cases m <;> first | exact p | (simp [plainU] at p; done) | (simp [plainU]; done)
  | n + 1, 0, u, h, p => absurd h (by omega)
  | n + 1, m + 1, u, h, p => by
    cases u with
    | tup xs =>
      rw [plainU] at p ⊢
      rw [List.all_eq_true] at p ⊢
      exact fun x hx => plain_mono n m x (by omega) (p x hx)
    | lst xs =>
      rw [plainU] at p ⊢
      rw [List.all_eq_true] at p ⊢
      exact fun x hx => plain_mono n m x (by omega) (p x hx)
    | _ => first | exact p | (simp [plainU] at p; done) | (simp [plainU]; done)
theorem toStr_ok {m : Int} (h0 : -(10 ^ 30) ≤ m) (h1 : m ≤ 10 ^ 30) : plainS (toString m : String) = true ∧ Str.length (toString m : String) ≤ 40 := by
  cases m with
  | ofNat k =>
    have hk : k < 10 ^ 31 := by
      have : ((k : Nat) : Int) ≤ 10 ^ 30 := h1
      omega
    have e : (Str.ofString (toString (Int.ofNat k))).cps.toList = (Nat.toDigits 10 k).map Char.toNat := PySem.W.KIN.signs_num k
    refine ⟨?_, ?_⟩
    · unfold plainS
      rw [e, List.all_eq_true]
      intro c hc
      have hd := digs_isD k c hc
      unfold isD at hd
      unfold plainC
      simp
      omega
    · have := PyProof.Rows.digits10_le (k := 31) (n := k) (by decide) hk
      have e2 : (Str.ofString (toString (Int.ofNat k))).length = ((Nat.toDigits 10 k).map Char.toNat).length := by rw [← e]; unfold Str.length; simp
      rw [e2, List.length_map]
      omega
  | negSucc k =>
    have hk : k + 1 < 10 ^ 31 := by omega
    have e : (Str.ofString (toString (Int.negSucc k))).cps.toList = 45 :: (Nat.toDigits 10 (k + 1)).map Char.toNat := sh_neg k
    refine ⟨?_, ?_⟩
    · unfold plainS
      rw [e, List.all_cons, Bool.and_eq_true]
      refine ⟨by decide, ?_⟩
      rw [List.all_eq_true]
      intro c hc
      have hd := digs_isD (k + 1) c hc
      unfold isD at hd
      unfold plainC
      simp
      omega
    · have := PyProof.Rows.digits10_le (k := 31) (n := k + 1) (by decide) hk
      have e2 : (Str.ofString (toString (Int.negSucc k))).length = (45 :: (Nat.toDigits 10 (k + 1)).map Char.toNat).length := by rw [← e]; unfold Str.length; simp
      rw [e2, List.length_cons, List.length_map]
      omega
theorem str_of_int {m : Int} (h0 : -(10 ^ 30) ≤ m) (h1 : m ≤ 10 ^ 30) : biU .str [.int m] = some (.str (toString m)) := by
  show (if strB m = true then some (U.str (toString m)) else none) = _
  rw [if_pos]
  refine strB_of ?_
  by_cases z : m.natAbs = 0
  · rw [z]; decide
  · have : m.natAbs.log2 < 110 := (Nat.log2_lt z).mpr (by omega)
    omega
theorem bw_toStr {m : Int} {w d r : Nat} (h0 : -(10 ^ 30) ≤ m) (h1 : m ≤ 10 ^ 30) (hw : 42 ≤ w) (hd : 1 ≤ d) : Bw w d r (.str (toString m)) := by
  obtain ⟨a, b⟩ := toStr_ok h0 h1
  refine ⟨?_, by rw [U.toP, PyData.depth]; omega, by rw [U.rd]; omega⟩
  rw [U.toP, wt, if_pos a]
  omega
theorem wt_int_big {i : Int} {w d r : Nat} (h : Bw w d r (.int i)) (hw : w < 10 ^ 9) : i.natAbs < 10 ^ 60 := by
  have := h.w
  rw [U.toP, wt] at this
  split at this
  · assumption
  · omega
section
variable {X : Tx} (hL : Has X c_lawc) (hk : TkOk X.tk)
include hL hk
theorem w_bent : ∀ (m : Nat) (u : U) {n : Nat} {P : Ps} {N : Int} {k : Nat} {Q : U → Ps → Prop} {w : Nat}, plainU m u = true → m ≤ 8 → Bw w (m + 1) m u → w < 10 ^ 6 → Pot N k P → N + 4 * m + 8 ≤ 2 ^ 38 → (∀ x P', Pot (N + 4 * m + 8) k P' → Bw (2 * w + 6000) (m + 6) (m + 6) x → Q x P') → Wu (calU X (n + m + 5) 859 [.pot k, u] P) Q := by
  intro m
  induction m with
  | zero =>
    intro u n P N k Q w hp h8 hb hw pot hN kk
    refine Wu_call (F := f__law_bent_v3) (by omega) (at__law_bent_v3 hL) rfl ?_
    have np : isPotU u = false := by cases u <;> first | rfl | (simp [plainU] at hp)
    have nt : isTupU u = false := by cases u <;> first | rfl | (simp [plainU] at hp)
    have p1 : powB 10 30 = true := powB_of ⟨by decide, by decide, by decide, by decide⟩
    simp [f__law_bent_v3, b__law_bent_v3, is_tup np, nt, p1, u_is_int hL np]
    cases hu : inB (-1000000000000000000000000000000) 1000000000000000000000000000000 u with
    | false =>
      simp
      exact w_odd hL hk pot (by omega) fun x P' h1 h2 => kk x P' (h1.mono (by omega)) ((Gd.bw h2).mono (by omega) (by omega) (by omega))
    | true =>
      cases u with
      | int i =>
        unfold inB at hu
        rw [Bool.and_eq_true, decide_eq_true_eq, decide_eq_true_eq] at hu
        simp [str_of_int (m := i) (by omega) (by omega)]
        refine w_odd hL hk pot (by omega) fun x P' h1 h2 => ?_
        simp [size_eq]
        refine w_of hL hk h1 (by omega) (by simp) (by simp) fun y P2 hy h3 => kk y P2 (h3.mono (by omega)) ?_
        simp only [List.mem_cons, List.not_mem_nil, or_false] at hy
        rcases hy with rfl | rfl | rfl | rfl | rfl | rfl
        · exact bw_int (by omega) (by omega) (by omega)
        · exact bw_int (by omega) (by omega) (by omega)
        · exact bw_int (by omega) (by omega) (by omega)
        · exact bw_toStr (by omega) (by omega) (by omega) (by omega)
        · exact bw_bl (by omega) (by omega)
        · exact (Gd.bw h2).mono (by omega) (by omega) (by omega)
      | _ => cases hu
  | succ m ih =>
    intro u n P N k Q w hp h8 hb hw pot hN kk
    have p1 : powB 10 30 = true := powB_of ⟨by decide, by decide, by decide, by decide⟩
    have other : isPotU u = false → isTupU u = false → Wu (calU X (n + (m + 1) + 5) 859 [.pot k, u] P) Q := fun np nt => by
      refine Wu_call (F := f__law_bent_v3) (by omega) (at__law_bent_v3 hL) rfl ?_
      simp [f__law_bent_v3, b__law_bent_v3, is_tup np, nt, p1, u_is_int hL np]
      cases hu : inB (-1000000000000000000000000000000) 1000000000000000000000000000000 u with
      | false =>
        simp
        exact w_odd hL hk pot (by omega) fun x P' h1 h2 => kk x P' (h1.mono (by omega)) ((Gd.bw h2).mono (by omega) (by omega) (by omega))
      | true =>
        cases u with
        | int i =>
          unfold inB at hu
          rw [Bool.and_eq_true, decide_eq_true_eq, decide_eq_true_eq] at hu
          simp [str_of_int (m := i) (by omega) (by omega)]
          refine w_odd hL hk pot (by omega) fun x P' h1 h2 => ?_
          simp [size_eq]
          refine w_of hL hk h1 (by omega) (by simp) (by simp) fun y P2 hy h3 => kk y P2 (h3.mono (by omega)) ?_
          simp only [List.mem_cons, List.not_mem_nil, or_false] at hy
          rcases hy with rfl | rfl | rfl | rfl | rfl | rfl
          · exact bw_int (by omega) (by omega) (by omega)
          · exact bw_int (by omega) (by omega) (by omega)
          · exact bw_int (by omega) (by omega) (by omega)
          · exact bw_toStr (by omega) (by omega) (by omega) (by omega)
          · exact bw_bl (by omega) (by omega)
          · exact (Gd.bw h2).mono (by omega) (by omega) (by omega)
        | _ => cases hu
    cases u with
    | tup xs =>
      refine Wu_call (F := f__law_bent_v3) (by omega) (at__law_bent_v3 hL) rfl ?_
      have ht : isiU "tuple" (.tup xs) = some true := is_tup (u := .tup xs) rfl
      have hne : cmpU .ne (.tup xs) (.tup []) = some (!decide (U.tup xs = .tup [])) := cu_ne (plain_mono _ _ _ h8 hp) rfl
      have hbl := hb.of_tup
      have hw0 : 4 ≤ w := by
        have := hb.w
        rw [U.toP, wt] at this
        omega
      have hbw : Bl (w - 4) (m + 1) (m + 1) xs := by
        have h1 := hb.w; have h2 := hb.d; have h3 := hb.r
        rw [U.toP, wt] at h1
        rw [U.toP, PyData.depth] at h2
        rw [U.rd] at h3
        exact ⟨by omega, by omega, by omega⟩
      have hlen : xs.length ≤ w := by
        have h1 := hbl.w
        have : ∀ l : List U, l.length * 2 ≤ wts (U.toPs l) := fun l => by
          induction l with
          | nil => simp
          | cons a l ih => rw [U.toPs, wts, List.length_cons]; omega
        have := this xs
        omega
      have tail : ∀ P1 N1, Pot N1 k P1 → N1 ≤ N + 2 → Wv (exUs X.G X.W (calU X (n + (m + 1) + 4)) b__law_bent_v3.tail [some (.pot k), some (.tup xs), none, none] P1) (fun _ P => Q .non P) Q := fun P1 N1 h1 h2 => by
        have c1 : cutU xs none (some 1) = xs.take 1 := cut_take (by omega)
        have z1 : xs.length + min 1 xs.length ≤ sizeLine := by rw [size_eq]; omega
        have z2 : xs.length + 1 ≤ sizeLine := by rw [size_eq]; omega
        have z3 : 1 ≤ sizeLine := by rw [size_eq]; omega
        simp [b__law_bent_v3, ht, cut_last, c1, z1, z2, z3]
        refine w_odd hL hk h1 (by omega) fun x P' h1 hgd => ?_
        simp [size_eq]
        refine w_of hL hk h1 (by omega) (by simp) (by simp) fun y P2 hy h3 => kk y P2 (h3.mono (by omega)) ?_
        simp only [List.mem_cons, List.not_mem_nil, or_false] at hy
        rcases hy with rfl | rfl | rfl | rfl | rfl | rfl | rfl | rfl
        · exact hbw.lst (by omega) (by omega) (by omega)
        · exact ((hbw.take _).tup (Nat.le_refl _) (Nat.le_refl _)).mono (by omega) (by omega) (by omega)
        · exact ((hbw.app (hbw.take 1) (Nat.le_refl _)).tup (Nat.le_refl _) (Nat.le_refl _)).mono (by omega) (by omega) (by omega)
        · exact ((hbw.app (Bl.cons (w1 := 62) (w2 := 0) (w := 64) (bw_int (by decide) (by omega) (by omega)) Bl.nil (by omega)) (Nat.le_refl _)).tup (Nat.le_refl _) (Nat.le_refl _)).mono (by omega) (by omega) (by omega)
        · exact (hbw.rev.tup (Nat.le_refl _) (Nat.le_refl _)).mono (by omega) (by omega) (by omega)
        · exact ((Bl.cons (w2 := 0) hb Bl.nil (Nat.le_refl _)).tup (Nat.le_refl _) (Nat.le_refl _)).mono (by omega) (by omega) (by omega)
        · exact (hbw.take 1).lst (by omega) (by omega) (by omega)
        · exact (Gd.bw hgd).mono (by omega) (by omega) (by omega)
      show Wv (exUs X.G X.W _ (_ :: b__law_bent_v3.tail) _ P) _ _
      rw [xs_cons, Wv_seq, x_ite, Wv_ite]
      by_cases hx : xs = []
      · subst hx
        simp [ht, hne, f__law_bent_v3]
        exact tail P N pot (by omega)
      · simp [ht, hne, hx, f__law_bent_v3]
        refine w_take hk pot (by omega) (by omega) (by omega) fun v P1 v0 v1 pot1 => ?_
        simp
        by_cases hv : v = 0
        · simp [hv]
          exact tail P1 _ pot1 (by omega)
        · have hpos : 0 < xs.length := List.length_pos_iff.mpr hx
          simp [hv]
          refine w_take hk pot1 (by omega) (by omega) (by omega) fun a P2 a0 a1 pot2 => ?_
          obtain ⟨x, e, hxm⟩ := atU a0 a1
          have hpx : plainU m x = true := by
            rw [plainU, List.all_eq_true] at hp
            exact hp x hxm
          have hbx : Bw w (m + 1) m x := by
            have := hbw.mem hxm
            have h3 := (plain_ok x m hpx).1
            exact ⟨by have := this.w; omega, this.d, h3⟩
          have c1 : cutU xs none (some a) = xs.take a.toNat := cut_take a0
          have c2 : cutU xs (some (a + 1)) none = xs.drop (a + 1).toNat := cut_drop (by omega)
          simp [e, c1]
          have fu : n + (m + 1) + 4 = n + m + 5 := by omega
          rw [fu]
          have hN2 : N + 1 + 1 + 4 * (m : Int) + 8 ≤ 2 ^ 38 := by omega
          -- the weights: what is left, the bent one, what stands behind
          have ha : a.toNat < xs.length := by omega
          have ex : xs[a.toNat]? = some x := by
            have := e
            unfold L2.atI ixN at this
            rw [if_pos a0, if_pos a1] at this
            exact this
          have hsp : xs = xs.take a.toNat ++ x :: xs.drop (a + 1).toNat := by
            have e1 : xs.drop a.toNat = x :: xs.drop (a.toNat + 1) := by
              rw [List.drop_eq_getElem_cons ha]
              congr 1
              rw [List.getElem?_eq_getElem ha] at ex
              exact Option.some.inj ex
            have e2 : (a + 1).toNat = a.toNat + 1 := by omega
            rw [e2, ← e1, List.take_append_drop]
          have hws : wts (U.toPs xs) = wts (U.toPs (xs.take a.toNat)) + (wt x.toP + 2 + wts (U.toPs (xs.drop (a + 1).toNat))) := by
            have z : wts (U.toPs xs) = wts (U.toPs (xs.take a.toNat ++ x :: xs.drop (a + 1).toNat)) := congrArg (fun l => wts (U.toPs l)) hsp
            rw [z, toPs_map', List.map_append, wts_app, List.map_cons, wts, ← toPs_map', ← toPs_map']
          have hw1 := hb.w
          rw [U.toP, wt] at hw1
          have b1 : Bl (wts (U.toPs (xs.take a.toNat))) (m + 6) (m + 6) (xs.take a.toNat) := ⟨Nat.le_refl _, Nat.le_trans (hbw.take _).d (by omega), Nat.le_trans (hbw.take _).r (by omega)⟩
          have b2 : Bl (wts (U.toPs (xs.drop (a + 1).toNat))) (m + 6) (m + 6) (xs.drop (a + 1).toNat) := ⟨Nat.le_refl _, Nat.le_trans (hbw.drop _).d (by omega), Nat.le_trans (hbw.drop _).r (by omega)⟩
          refine ih x (w := wt x.toP) hpx (by omega) ⟨Nat.le_refl _, hbx.d, hbx.r⟩ (by omega) pot2 hN2 fun y P3 pot3 hy => ?_
          rw [c2]
          refine ⟨by rw [size_eq]; omega, by rw [size_eq]; omega, by rw [size_eq, List.length_drop]; omega, kk _ P3 (pot3.mono (by omega)) ?_⟩
          exact ((b1.app (Bl.cons hy b2 (Nat.le_refl _)) (Nat.le_refl _)).tup (Nat.le_refl _) (Nat.le_refl _)).mono (by omega) (by omega) (by omega)
    | lst xs => exact other rfl rfl
    | non => exact other rfl rfl
    | int i => exact other rfl rfl
    | str i => exact other rfl rfl
    | bl b => simp [plainU] at hp
    | frz b => simp [plainU] at hp
    | dct b c => simp [plainU] at hp
    | pot b => simp [plainU] at hp
end
end Pr

end
section
set_option Elab.async false
set_option linter.all false
set_option maxRecDepth 100000
namespace Pr
open PySem L2 Mi Pv
def b_is_integer : List Sm := [.ret (.and [.bi (.isi "int") [.var 0], .not (.bi (.isi "bool") [.var 0])])]
def f_is_integer : Fd := ⟨"is_integer", 1, 1, b_is_integer⟩
def b_is_between : List Sm := [.ret (.and [.call 3 [.var 0], .chain .le .le (.var 1) (.var 0) (.var 2)])]
def f_is_between : Fd := ⟨"is_between", 3, 3, b_is_between⟩
def e_are_between_1 : E := .lc [3] (.one 3) .seq [.var 0] [] (.call 4 [.var 3, .var 1, .var 2])
def b_are_between : List Sm := [.ret (.and [.bi (.isi "tuple") [.var 0], .bi .all [e_are_between_1]])]
def f_are_between : Fd := ⟨"are_between", 3, 4, b_are_between⟩
-- not in the small language yet: is_ascending
def b_is_ascending : List Sm := [.never]
def f_is_ascending : Fd := ⟨"is_ascending", 1, 3, b_is_ascending⟩
def c_words : Tab := [(3, f_is_integer), (4, f_is_between), (5, f_are_between), (212, f_is_ascending)]
theorem at_is_integer {X : Tx} (h : Has X c_words) : X.T 3 = some f_is_integer := h.at_ (i := 0) rfl
theorem at_is_between {X : Tx} (h : Has X c_words) : X.T 4 = some f_is_between := h.at_ (i := 1) rfl
theorem at_are_between {X : Tx} (h : Has X c_words) : X.T 5 = some f_are_between := h.at_ (i := 2) rfl
theorem at_is_ascending {X : Tx} (h : Has X c_words) : X.T 212 = some f_is_ascending := h.at_ (i := 3) rfl
end Pr

end
section
set_option Elab.async false
set_option linter.all false
set_option maxRecDepth 100000
set_option maxHeartbeats 1000000
namespace Pr
open PySem L2 Mi Pv
section
variable {X : Tx} {n : Nat} {P : Ps} (hw : Has X c_words)
include hw
theorem u_is_integer {u : U} (h : isPotU u = false) : calU X (n + 1) 3 [u] P = some (.ok (.bl (isIntU u)) P) := by
  rw [call_eq (by omega) (at_is_integer hw) rfl]
  simp [f_is_integer, b_is_integer, is_int h, is_bool h]
  cases u <;> simp [isIntU, isBlU]
theorem u_is_between {u : U} {lo hi : Int} (h : isPotU u = false) : calU X (n + 2) 4 [u, .int lo, .int hi] P = some (.ok (.bl (inB lo hi u)) P) := by
  rw [call_eq (by omega) (at_is_between hw) rfl]
  simp [f_is_between, b_is_between, u_is_integer hw h]
  cases u with
  | int i => by_cases hl : lo ≤ i <;> simp [isIntU, inB, hl]
  | _ => simp [isIntU, inB]
end
theorem inB_int {lo hi : Int} {u : U} : inB lo hi u = true ↔ ∃ i, u = .int i ∧ lo ≤ i ∧ i ≤ hi := by
  cases u with
  | int i =>
    simp [inB]
  | _ => simp [inB]
@[simp] theorem at0 (x : U) (xs : List U) : L2.atI (x :: xs) 0 = some x := by
  unfold L2.atI ixN
  simp
@[simp] theorem at1 (x y : U) (xs : List U) : L2.atI (x :: y :: xs) 1 = some y := by
  unfold L2.atI ixN
  rw [if_pos (by omega), if_pos (by simp; omega)]
  rfl
@[simp] theorem at2 (x y z : U) (xs : List U) : L2.atI (x :: y :: z :: xs) 2 = some z := by
  unfold L2.atI ixN
  rw [if_pos (by omega), if_pos (by simp; omega)]
  rfl
@[simp] theorem at3 (x y z w : U) (xs : List U) : L2.atI (x :: y :: z :: w :: xs) 3 = some w := by
  unfold L2.atI ixN
  rw [if_pos (by omega), if_pos (by simp; omega)]
  rfl
@[simp] theorem at4 (x y z w v : U) (xs : List U) : L2.atI (x :: y :: z :: w :: v :: xs) 4 = some v := by
  unfold L2.atI ixN
  rw [if_pos (by omega), if_pos (by simp; omega)]
  rfl
/-! ### a loop that folds -/
theorem forU_fold {t : Tg} {body : LocU → Ps → Option OU} {P : Ps} {σ β : Type} (inj : β → U) (step : σ → β → σ) (R : σ → LocU → Prop) : ∀ (bs : List β) (s : σ) (ρ : LocU),
    (∀ s b ρ, b ∈ bs → R s ρ → ∃ ρ1 ρ2, setU ρ t (inj b) = some ρ1 ∧ body ρ1 P = some (.nx ρ2 P) ∧ R (step s b) ρ2) → R s ρ → ∃ ρ', forU t body (bs.map inj) ρ P = some (.nx ρ' P) ∧ R (bs.foldl step s) ρ'
  | [], s, ρ, _, r => ⟨ρ, rfl, r⟩
  | b :: bs, s, ρ, h, r => by
    obtain ⟨ρ1, ρ2, e1, e2, r2⟩ := h s b ρ List.mem_cons_self r
    obtain ⟨ρ', e3, r3⟩ := forU_fold inj step R bs (step s b) ρ2 (fun s b ρ hb => h s b ρ (List.mem_cons_of_mem _ hb)) r2
    refine ⟨ρ', ?_, r3⟩
    rw [List.map_cons, forU, e1]
    simp only [Option.bind_some, e2]
    exact e3
theorem x_for_fold {G : Nat → Option U} {cal : CalU} {W : Nat} {t : Tg} {k : Ik} {its : List E} {body : List Sm} {ds : List U} {ρ : LocU} {P : Ps} {σ β : Type} (inj : β → U) (step : σ → β → σ) (R : σ → LocU → Prop) (bs : List β) (s : σ) (h1 : evUs G cal its ρ P = some (.ok ds P)) (h2 : itU k ds = some (bs.map inj))
    (r : R s ρ) (h : ∀ s b ρ, b ∈ bs → R s ρ → ∃ ρ1 ρ2, setU ρ t (inj b) = some ρ1 ∧ exUs G W cal body ρ1 P = some (.nx ρ2 P) ∧ R (step s b) ρ2) : ∃ ρ', exU G W cal (.for_ t k its body) ρ P = some (.nx ρ' P) ∧ R (bs.foldl step s) ρ' := by
  obtain ⟨ρ', e, r'⟩ := forU_fold (t := t) (body := fun ρ P => exUs G W cal body ρ P) inj step R bs s ρ h r
  refine ⟨ρ', ?_, r'⟩
  rw [x_for, h1, bndO_ok, h2]
  exact e
theorem forU_inv {t : Tg} {body : LocU → Ps → Option OU} {P : Ps} {β : Type} (inj : β → U) (J : List β → LocU → Prop) (h : ∀ b bs ρ, J (b :: bs) ρ → ∃ ρ1 ρ2, setU ρ t (inj b) = some ρ1 ∧ body ρ1 P = some (.nx ρ2 P) ∧ J bs ρ2) : ∀ (bs : List β) (ρ : LocU), J bs ρ → ∃ ρ', forU t body (bs.map inj) ρ P = some (.nx ρ' P) ∧ J [] ρ'
  | [], ρ, r => ⟨ρ, rfl, r⟩
  | b :: bs, ρ, r => by
    obtain ⟨ρ1, ρ2, e1, e2, r2⟩ := h b bs ρ r
    obtain ⟨ρ', e3, r3⟩ := forU_inv inj J h bs ρ2 r2
    refine ⟨ρ', ?_, r3⟩
    rw [List.map_cons, forU, e1]
    simp only [Option.bind_some, e2]
    exact e3
theorem x_for_inv {G : Nat → Option U} {cal : CalU} {W : Nat} {t : Tg} {k : Ik} {its : List E} {body : List Sm} {ds : List U} {ρ : LocU} {P : Ps} {β : Type} (inj : β → U) (J : List β → LocU → Prop) (bs : List β) (h1 : evUs G cal its ρ P = some (.ok ds P)) (h2 : itU k ds = some (bs.map inj))
    (r : J bs ρ) (h : ∀ b bs ρ, J (b :: bs) ρ → ∃ ρ1 ρ2, setU ρ t (inj b) = some ρ1 ∧ exUs G W cal body ρ1 P = some (.nx ρ2 P) ∧ J bs ρ2) : ∃ ρ', exU G W cal (.for_ t k its body) ρ P = some (.nx ρ' P) ∧ J [] ρ' := by
  obtain ⟨ρ', e, r'⟩ := forU_inv (t := t) (body := fun ρ P => exUs G W cal body ρ P) inj J h bs ρ r
  refine ⟨ρ', ?_, r'⟩
  rw [x_for, h1, bndO_ok, h2]
  exact e
/-- ints from 1 on -/
theorem rg1 (m : Nat) : rgU 1 ((m : Int) + 1) = (List.range m).map fun i => U.int ((i + 1 : Nat) : Int) := by
  unfold rgU
  have e : ((m : Int) + 1 - 1).toNat = m := by omega
  rw [e]
  refine List.map_congr_left fun i _ => ?_
  congr 1
  omega
theorem rg0 (m : Nat) : rgU 0 (m : Int) = (List.range m).map fun (i : Nat) => U.int (i : Int) := by
  unfold rgU
  have e : ((m : Int) - 0).toNat = m := by omega
  rw [e]
  refine List.map_congr_left fun i _ => ?_
  congr 1
  omega
end Pr

end
section
set_option Elab.async false
set_option linter.all false
set_option maxRecDepth 100000
namespace Pr
open PySem L2 Mi Pv
def l_check_teeth_1 : List Sm := [.ite (.not (.call 4 [.var 2, .glb 119, .glb 120])) [.never] []]
def s_check_teeth_1 : Sm := .for_ (.one 2) .seq [.tup [.var 0, .var 1]] l_check_teeth_1
def b_check_teeth : List Sm := [s_check_teeth_1]
def f_check_teeth : Fd := ⟨"check_teeth", 2, 3, b_check_teeth⟩
def b_check_tooth : List Sm := [.ite (.not (.call 4 [.var 1, .lit (.int 0), .op .sub (.var 0) (.lit (.int 1))])) [.never] []]
def f_check_tooth : Fd := ⟨"check_tooth", 2, 2, b_check_tooth⟩
def b_check_both_v3 : List Sm := [.expr (.call 1018 [.var 0, .var 1]), .expr (.call 1019 [.var 0, .var 2]), .expr (.call 1019 [.var 1, .var 3])]
def f_check_both_v3 : Fd := ⟨"check_both", 4, 4, b_check_both_v3⟩
def l_common_1 : List Sm := [.asg (.tup [0, 1]) (.tup [.var 1, .op .mod (.var 0) (.var 1)])]
def s_common_1 : Sm := .whl (.cmp .ne (.var 1) (.lit (.int 0))) l_common_1
def b_common : List Sm := [s_common_1, .ret (.var 0)]
def f_common : Fd := ⟨"common", 2, 2, b_common⟩
def e_tick_of_1 : E := .lc [5] (.one 5) .rng3 [.var 2, .op .mul (.var 0) (.var 1), .var 0] [.cmp .eq (.op .mod (.var 5) (.var 1)) (.var 3)] (.var 5)
def b_tick_of : List Sm := [.asg (.one 4) (e_tick_of_1), .ret (.ite (.cmp .ne (.var 4) (.lst [])) (.ix (.var 4) (.lit (.int 0))) (.lit .non))]
def f_tick_of : Fd := ⟨"tick_of", 4, 6, b_tick_of⟩
def b_meeting : List Sm := [.expr (.call 1020 [.var 0, .var 1, .var 2, .var 3]), .asg (.one 4) (.call 1022 [.var 0, .var 1, .var 2, .var 3]), .ret (.ite (.cmp .isN (.var 4) (.lit .non)) (.tup [.glb 109, .call 1021 [.var 0, .var 1]]) (.tup [.glb 20, .var 4]))]
def f_meeting : Fd := ⟨"meeting", 4, 5, b_meeting⟩
def b_shows_meeting : List Sm := [.expr (.call 1020 [.var 0, .var 1, .var 2, .var 3]), .ite (.or [.not (.bi (.isi "tuple") [.var 4]), .cmp .ne (.bi .len [.var 4]) (.lit (.int 2)), .not (.bi (.isi "str") [.ix (.var 4) (.lit (.int 0))]), .not (.call 3 [.ix (.var 4) (.lit (.int 1))])]) [.ret (.lit (.bl false))] [], .ite (.cmp .eq (.ix (.var 4) (.lit (.int 0))) (.glb 20)) [.ret (.cmp .eq (.ix (.var 4) (.lit (.int 1))) (.call 1022 [.var 0, .var 1, .var 2, .var 3]))] [], .ite (.or [.cmp .ne (.ix (.var 4) (.lit (.int 0))) (.glb 109), .cmp .lt (.ix (.var 4) (.lit (.int 1))) (.lit (.int 2)), .cmp .ne (.op .mod (.var 0) (.ix (.var 4) (.lit (.int 1)))) (.lit (.int 0)), .cmp .ne (.op .mod (.var 1) (.ix (.var 4) (.lit (.int 1)))) (.lit (.int 0))]) [.ret (.lit (.bl false))] [], .ret (.cmp .ne (.op .mod (.var 2) (.ix (.var 4) (.lit (.int 1)))) (.op .mod (.var 3) (.ix (.var 4) (.lit (.int 1)))))]
def f_shows_meeting : Fd := ⟨"shows_meeting", 5, 5, b_shows_meeting⟩
def b_again_of : List Sm := [.ret (.op .fdiv (.op .mul (.var 0) (.var 1)) (.call 1021 [.var 0, .var 1]))]
def f_again_of : Fd := ⟨"again_of", 2, 2, b_again_of⟩
def b_again : List Sm := [.expr (.call 1018 [.var 0, .var 1]), .ret (.call 1025 [.var 0, .var 1])]
def f_again : Fd := ⟨"again", 2, 2, b_again⟩
def b_pairs_met : List Sm := [.expr (.call 1018 [.var 0, .var 1]), .ret (.call 1025 [.var 0, .var 1])]
def f_pairs_met : Fd := ⟨"pairs_met", 2, 2, b_pairs_met⟩
def b_is_hunting : List Sm := [.expr (.call 1018 [.var 0, .var 1]), .ret (.cmp .eq (.call 1025 [.var 0, .var 1]) (.op .mul (.var 0) (.var 1)))]
def f_is_hunting : Fd := ⟨"is_hunting", 2, 2, b_is_hunting⟩
def e_mates_1 : E := .lc [3] (.one 3) .rng3 [.var 2, .op .mul (.var 0) (.var 1), .var 0] [] (.op .mod (.var 3) (.var 1))
def b_mates : List Sm := [.expr (.call 1018 [.var 0, .var 1]), .expr (.call 1019 [.var 0, .var 2]), .ret (.bi .tuple [.bi .sset [e_mates_1]])]
def f_mates : Fd := ⟨"mates", 3, 4, b_mates⟩
def l_check_teeth_v2_1 : List Sm := [.ite (.not (.call 4 [.var 2, .glb 119, .glb 131])) [.never] []]
def s_check_teeth_v2_1 : Sm := .for_ (.one 2) .seq [.tup [.var 0, .var 1]] l_check_teeth_v2_1
def b_check_teeth_v2 : List Sm := [s_check_teeth_v2_1]
def f_check_teeth_v2 : Fd := ⟨"check_teeth", 2, 3, b_check_teeth_v2⟩
def b_check_both_v4 : List Sm := [.expr (.call 1086 [.var 0, .var 1]), .expr (.call 1019 [.var 0, .var 2]), .expr (.call 1019 [.var 1, .var 3])]
def f_check_both_v4 : Fd := ⟨"check_both", 4, 4, b_check_both_v4⟩
def b_meeting_v2 : List Sm := [.expr (.call 1087 [.var 0, .var 1, .var 2, .var 3]), .asg (.one 4) (.call 1022 [.var 0, .var 1, .var 2, .var 3]), .ret (.ite (.cmp .isN (.var 4) (.lit .non)) (.tup [.glb 109, .call 1021 [.var 0, .var 1]]) (.tup [.glb 20, .var 4]))]
def f_meeting_v2 : Fd := ⟨"meeting", 4, 5, b_meeting_v2⟩
def b_shows_meeting_v2 : List Sm := [.expr (.call 1087 [.var 0, .var 1, .var 2, .var 3]), .ite (.or [.not (.bi (.isi "tuple") [.var 4]), .cmp .ne (.bi .len [.var 4]) (.lit (.int 2)), .not (.bi (.isi "str") [.ix (.var 4) (.lit (.int 0))]), .not (.call 3 [.ix (.var 4) (.lit (.int 1))])]) [.ret (.lit (.bl false))] [], .ite (.cmp .eq (.ix (.var 4) (.lit (.int 0))) (.glb 20)) [.ret (.cmp .eq (.ix (.var 4) (.lit (.int 1))) (.call 1022 [.var 0, .var 1, .var 2, .var 3]))] [], .ite (.or [.cmp .ne (.ix (.var 4) (.lit (.int 0))) (.glb 109), .cmp .lt (.ix (.var 4) (.lit (.int 1))) (.lit (.int 2)), .cmp .ne (.op .mod (.var 0) (.ix (.var 4) (.lit (.int 1)))) (.lit (.int 0)), .cmp .ne (.op .mod (.var 1) (.ix (.var 4) (.lit (.int 1)))) (.lit (.int 0))]) [.ret (.lit (.bl false))] [], .ret (.cmp .ne (.op .mod (.var 2) (.ix (.var 4) (.lit (.int 1)))) (.op .mod (.var 3) (.ix (.var 4) (.lit (.int 1)))))]
def f_shows_meeting_v2 : Fd := ⟨"shows_meeting", 5, 5, b_shows_meeting_v2⟩
def b_again_v2 : List Sm := [.expr (.call 1086 [.var 0, .var 1]), .ret (.call 1025 [.var 0, .var 1])]
def f_again_v2 : Fd := ⟨"again", 2, 2, b_again_v2⟩
def b_pairs_met_v2 : List Sm := [.expr (.call 1086 [.var 0, .var 1]), .ret (.call 1025 [.var 0, .var 1])]
def f_pairs_met_v2 : Fd := ⟨"pairs_met", 2, 2, b_pairs_met_v2⟩
def b_is_hunting_v2 : List Sm := [.expr (.call 1086 [.var 0, .var 1]), .ret (.cmp .eq (.call 1025 [.var 0, .var 1]) (.op .mul (.var 0) (.var 1)))]
def f_is_hunting_v2 : Fd := ⟨"is_hunting", 2, 2, b_is_hunting_v2⟩
def e_mates_v2_1 : E := .lc [3] (.one 3) .rng3 [.var 2, .op .mul (.var 0) (.var 1), .var 0] [] (.op .mod (.var 3) (.var 1))
def b_mates_v2 : List Sm := [.expr (.call 1086 [.var 0, .var 1]), .expr (.call 1019 [.var 0, .var 2]), .ret (.bi .tuple [.bi .sset [e_mates_v2_1]])]
def f_mates_v2 : Fd := ⟨"mates", 3, 4, b_mates_v2⟩
def b_meeting_v3 : List Sm := [.expr (.call 1020 [.var 0, .var 1, .var 2, .var 3]), .asg (.one 4) (.call 1022 [.var 0, .var 1, .var 2, .var 3]), .ret (.ite (.cmp .isN (.var 4) (.lit .non)) (.tup [.glb 109, .call 1021 [.var 0, .var 1]]) (.tup [.glb 136, .var 4]))]
def f_meeting_v3 : Fd := ⟨"meeting", 4, 5, b_meeting_v3⟩
def c_cogs : Tab := [(1018, f_check_teeth), (1019, f_check_tooth), (1020, f_check_both_v3), (1021, f_common), (1022, f_tick_of), (1023, f_meeting), (1024, f_shows_meeting), (1025, f_again_of), (1026, f_again), (1027, f_pairs_met), (1028, f_is_hunting), (1029, f_mates), (1086, f_check_teeth_v2), (1087, f_check_both_v4), (1088, f_meeting_v2), (1089, f_shows_meeting_v2), (1090, f_again_v2), (1091, f_pairs_met_v2), (1092, f_is_hunting_v2), (1093, f_mates_v2), (1214, f_meeting_v3)]
theorem at_check_teeth {X : Tx} (h : Has X c_cogs) : X.T 1018 = some f_check_teeth := h.at_ (i := 0) rfl
theorem at_check_tooth {X : Tx} (h : Has X c_cogs) : X.T 1019 = some f_check_tooth := h.at_ (i := 1) rfl
theorem at_check_both_v3 {X : Tx} (h : Has X c_cogs) : X.T 1020 = some f_check_both_v3 := h.at_ (i := 2) rfl
theorem at_common {X : Tx} (h : Has X c_cogs) : X.T 1021 = some f_common := h.at_ (i := 3) rfl
theorem at_tick_of {X : Tx} (h : Has X c_cogs) : X.T 1022 = some f_tick_of := h.at_ (i := 4) rfl
theorem at_meeting {X : Tx} (h : Has X c_cogs) : X.T 1023 = some f_meeting := h.at_ (i := 5) rfl
theorem at_shows_meeting {X : Tx} (h : Has X c_cogs) : X.T 1024 = some f_shows_meeting := h.at_ (i := 6) rfl
theorem at_again_of {X : Tx} (h : Has X c_cogs) : X.T 1025 = some f_again_of := h.at_ (i := 7) rfl
theorem at_again {X : Tx} (h : Has X c_cogs) : X.T 1026 = some f_again := h.at_ (i := 8) rfl
theorem at_pairs_met {X : Tx} (h : Has X c_cogs) : X.T 1027 = some f_pairs_met := h.at_ (i := 9) rfl
theorem at_is_hunting {X : Tx} (h : Has X c_cogs) : X.T 1028 = some f_is_hunting := h.at_ (i := 10) rfl
theorem at_mates {X : Tx} (h : Has X c_cogs) : X.T 1029 = some f_mates := h.at_ (i := 11) rfl
theorem at_check_teeth_v2 {X : Tx} (h : Has X c_cogs) : X.T 1086 = some f_check_teeth_v2 := h.at_ (i := 12) rfl
theorem at_check_both_v4 {X : Tx} (h : Has X c_cogs) : X.T 1087 = some f_check_both_v4 := h.at_ (i := 13) rfl
theorem at_meeting_v2 {X : Tx} (h : Has X c_cogs) : X.T 1088 = some f_meeting_v2 := h.at_ (i := 14) rfl
theorem at_shows_meeting_v2 {X : Tx} (h : Has X c_cogs) : X.T 1089 = some f_shows_meeting_v2 := h.at_ (i := 15) rfl
theorem at_again_v2 {X : Tx} (h : Has X c_cogs) : X.T 1090 = some f_again_v2 := h.at_ (i := 16) rfl
theorem at_pairs_met_v2 {X : Tx} (h : Has X c_cogs) : X.T 1091 = some f_pairs_met_v2 := h.at_ (i := 17) rfl
theorem at_is_hunting_v2 {X : Tx} (h : Has X c_cogs) : X.T 1092 = some f_is_hunting_v2 := h.at_ (i := 18) rfl
theorem at_mates_v2 {X : Tx} (h : Has X c_cogs) : X.T 1093 = some f_mates_v2 := h.at_ (i := 19) rfl
theorem at_meeting_v3 {X : Tx} (h : Has X c_cogs) : X.T 1214 = some f_meeting_v3 := h.at_ (i := 20) rfl
end Pr

end
section
set_option Elab.async false
set_option linter.all false
set_option maxRecDepth 100000
namespace Pr
open PySem L2 Mi Pv
def l_fraction_1 : List Sm := [.asg (.tup [2, 3]) (.tup [.var 3, .op .mod (.var 2) (.var 3)])]
def s_fraction_1 : Sm := .whl (.cmp .ne (.var 3) (.lit (.int 0))) l_fraction_1
def b_fraction : List Sm := [.asg (.tup [2, 3]) (.tup [.var 0, .var 1]), s_fraction_1, .ret (.tup [.op .fdiv (.var 0) (.var 2), .op .fdiv (.var 1) (.var 2)])]
def f_fraction : Fd := ⟨"fraction", 2, 4, b_fraction⟩
def b_plus : List Sm := [.ret (.call 720 [.op .add (.op .mul (.ix (.var 0) (.lit (.int 0))) (.ix (.var 1) (.lit (.int 1)))) (.op .mul (.ix (.var 1) (.lit (.int 0))) (.ix (.var 0) (.lit (.int 1)))), .op .mul (.ix (.var 0) (.lit (.int 1))) (.ix (.var 1) (.lit (.int 1)))])]
def f_plus : Fd := ⟨"plus", 2, 2, b_plus⟩
def b_share : List Sm := [.ret (.call 720 [.op .mul (.ix (.var 0) (.lit (.int 0))) (.var 1), .op .mul (.ix (.var 0) (.lit (.int 1))) (.var 2)])]
def f_share : Fd := ⟨"share", 3, 3, b_share⟩
def b_is_less : List Sm := [.ret (.cmp .lt (.op .mul (.ix (.var 0) (.lit (.int 0))) (.ix (.var 1) (.lit (.int 1)))) (.op .mul (.ix (.var 1) (.lit (.int 0))) (.ix (.var 0) (.lit (.int 1)))))]
def f_is_less : Fd := ⟨"is_less", 2, 2, b_is_less⟩
def b_is_fraction : List Sm := [.ite (.or [.not (.bi (.isi "tuple") [.var 0]), .cmp .ne (.bi .len [.var 0]) (.lit (.int 2)), .not (.call 4 [.ix (.var 0) (.lit (.int 0)), .lit (.int 0), .ix (.var 0) (.lit (.int 0))])]) [.ret (.lit (.bl false))] [], .ret (.and [.call 4 [.ix (.var 0) (.lit (.int 1)), .lit (.int 1), .ix (.var 0) (.lit (.int 1))], .cmp .eq (.call 720 [.ix (.var 0) (.lit (.int 0)), .ix (.var 0) (.lit (.int 1))]) (.var 0)])]
def f_is_fraction : Fd := ⟨"is_fraction", 1, 1, b_is_fraction⟩
def l_check_two_v3_1 : List Sm := [.ite (.not (.call 724 [.var 2])) [.never] []]
def s_check_two_v3_1 : Sm := .for_ (.one 2) .seq [.tup [.var 0, .var 1]] l_check_two_v3_1
def b_check_two_v3 : List Sm := [s_check_two_v3_1]
def f_check_two_v3 : Fd := ⟨"check_two", 2, 3, b_check_two_v3⟩
def b_fraction_less : List Sm := [.expr (.call 725 [.var 0, .var 1]), .ret (.call 723 [.var 0, .var 1])]
def f_fraction_less : Fd := ⟨"fraction_less", 2, 2, b_fraction_less⟩
-- not in the small language yet: is_row
def b_is_row : List Sm := [.never]
def f_is_row : Fd := ⟨"is_row", 3, 5, b_is_row⟩
-- not in the small language yet: are_chances_of
def b_are_chances_of : List Sm := [.never]
def f_are_chances_of : Fd := ⟨"are_chances_of", 2, 4, b_are_chances_of⟩
def b_check_chances : List Sm := [.ite (.not (.call 728 [.var 0, .var 1])) [.never] []]
def f_check_chances : Fd := ⟨"check_chances", 2, 2, b_check_chances⟩
def b_are_chances : List Sm := [.expr (.call 172 [.var 0]), .ret (.call 728 [.var 0, .var 1])]
def f_are_chances : Fd := ⟨"are_chances", 2, 2, b_are_chances⟩
def b_check_ticks_v5 : List Sm := [.ite (.not (.call 4 [.var 0, .lit (.int 0), .glb 97])) [.never] []]
def f_check_ticks_v5 : Fd := ⟨"check_ticks", 1, 1, b_check_ticks_v5⟩
-- not in the small language yet: wind_chances
def b_wind_chances : List Sm := [.never]
def f_wind_chances : Fd := ⟨"wind_chances", 4, 11, b_wind_chances⟩
def b_fraction_sum : List Sm := [.expr (.call 725 [.var 0, .var 1]), .ret (.call 721 [.var 0, .var 1])]
def f_fraction_sum : Fd := ⟨"fraction_sum", 2, 2, b_fraction_sum⟩
def b_are_chances_v2 : List Sm := [.expr (.call 118 [.var 0]), .ret (.call 728 [.var 0, .var 1])]
def f_are_chances_v2 : Fd := ⟨"are_chances", 2, 2, b_are_chances_v2⟩
-- not in the small language yet: wind_chances_v2
def b_wind_chances_v2 : List Sm := [.never]
def f_wind_chances_v2 : Fd := ⟨"wind_chances", 4, 11, b_wind_chances_v2⟩
def b_check_ticks_v8 : List Sm := [.ite (.not (.call 4 [.var 0, .lit (.int 0), .glb 133])) [.never] []]
def f_check_ticks_v8 : Fd := ⟨"check_ticks", 1, 1, b_check_ticks_v8⟩
-- not in the small language yet: wind_chances_v3
def b_wind_chances_v3 : List Sm := [.never]
def f_wind_chances_v3 : Fd := ⟨"wind_chances", 4, 11, b_wind_chances_v3⟩
def c_chances : Tab := [(720, f_fraction), (721, f_plus), (722, f_share), (723, f_is_less), (724, f_is_fraction), (725, f_check_two_v3), (726, f_fraction_less), (727, f_is_row), (728, f_are_chances_of), (729, f_check_chances), (730, f_are_chances), (731, f_check_ticks_v5), (732, f_wind_chances), (908, f_fraction_sum), (909, f_are_chances_v2), (910, f_wind_chances_v2), (1118, f_check_ticks_v8), (1119, f_wind_chances_v3)]
theorem at_fraction {X : Tx} (h : Has X c_chances) : X.T 720 = some f_fraction := h.at_ (i := 0) rfl
theorem at_plus {X : Tx} (h : Has X c_chances) : X.T 721 = some f_plus := h.at_ (i := 1) rfl
theorem at_share {X : Tx} (h : Has X c_chances) : X.T 722 = some f_share := h.at_ (i := 2) rfl
theorem at_is_less {X : Tx} (h : Has X c_chances) : X.T 723 = some f_is_less := h.at_ (i := 3) rfl
theorem at_is_fraction {X : Tx} (h : Has X c_chances) : X.T 724 = some f_is_fraction := h.at_ (i := 4) rfl
theorem at_check_two_v3 {X : Tx} (h : Has X c_chances) : X.T 725 = some f_check_two_v3 := h.at_ (i := 5) rfl
theorem at_fraction_less {X : Tx} (h : Has X c_chances) : X.T 726 = some f_fraction_less := h.at_ (i := 6) rfl
theorem at_is_row {X : Tx} (h : Has X c_chances) : X.T 727 = some f_is_row := h.at_ (i := 7) rfl
theorem at_are_chances_of {X : Tx} (h : Has X c_chances) : X.T 728 = some f_are_chances_of := h.at_ (i := 8) rfl
theorem at_check_chances {X : Tx} (h : Has X c_chances) : X.T 729 = some f_check_chances := h.at_ (i := 9) rfl
theorem at_are_chances {X : Tx} (h : Has X c_chances) : X.T 730 = some f_are_chances := h.at_ (i := 10) rfl
theorem at_check_ticks_v5 {X : Tx} (h : Has X c_chances) : X.T 731 = some f_check_ticks_v5 := h.at_ (i := 11) rfl
theorem at_wind_chances {X : Tx} (h : Has X c_chances) : X.T 732 = some f_wind_chances := h.at_ (i := 12) rfl
theorem at_fraction_sum {X : Tx} (h : Has X c_chances) : X.T 908 = some f_fraction_sum := h.at_ (i := 13) rfl
theorem at_are_chances_v2 {X : Tx} (h : Has X c_chances) : X.T 909 = some f_are_chances_v2 := h.at_ (i := 14) rfl
theorem at_wind_chances_v2 {X : Tx} (h : Has X c_chances) : X.T 910 = some f_wind_chances_v2 := h.at_ (i := 15) rfl
theorem at_check_ticks_v8 {X : Tx} (h : Has X c_chances) : X.T 1118 = some f_check_ticks_v8 := h.at_ (i := 16) rfl
theorem at_wind_chances_v3 {X : Tx} (h : Has X c_chances) : X.T 1119 = some f_wind_chances_v3 := h.at_ (i := 17) rfl
end Pr

end
section
set_option Elab.async false
set_option linter.all false
set_option maxRecDepth 100000
namespace Pr
open PySem L2 Mi Pv
def e_is_ratio_1 : E := .lc [1] (.one 1) .seq [.var 0] [] (.call 4 [.var 1, .lit (.int 1), .glb 121])
def b_is_ratio : List Sm := [.ite (.or [.not (.bi (.isi "tuple") [.var 0]), .cmp .ne (.bi .len [.var 0]) (.lit (.int 2))]) [.ret (.lit (.bl false))] [], .ret (.bi .all [e_is_ratio_1])]
def f_is_ratio : Fd := ⟨"is_ratio", 1, 2, b_is_ratio⟩
def b_check_ratio : List Sm := [.ite (.not (.call 1032 [.var 0])) [.never] []]
def f_check_ratio : Fd := ⟨"check_ratio", 1, 1, b_check_ratio⟩
def b_check_most : List Sm := [.expr (.call 1033 [.var 0]), .ite (.not (.call 4 [.var 1, .lit (.int 1), .glb 120])) [.never] []]
def f_check_most : Fd := ⟨"check_most", 2, 2, b_check_most⟩
def b_least : List Sm := [.asg (.one 2) (.call 1021 [.var 0, .var 1]), .ret (.tup [.op .fdiv (.var 0) (.var 2), .op .fdiv (.var 1) (.var 2)])]
def f_least : Fd := ⟨"least", 2, 3, b_least⟩
def l_below_of_1 : List Sm := [.asg (.one 4) (.tup [.bi .min2 [.var 1, .op .fdiv (.op .mul (.ix (.var 0) (.lit (.int 0))) (.var 3)) (.ix (.var 0) (.lit (.int 1)))], .var 3]), .asg (.one 2) (.ite (.call 723 [.var 2, .var 4]) (.var 4) (.var 2))]
def s_below_of_1 : Sm := .for_ (.one 3) .rng2 [.lit (.int 1), .op .add (.var 1) (.lit (.int 1))] l_below_of_1
def b_below_of : List Sm := [.asg (.one 2) (.tup [.lit (.int 0), .lit (.int 1)]), s_below_of_1, .ret (.call 1035 [.ix (.var 2) (.lit (.int 0)), .ix (.var 2) (.lit (.int 1))])]
def f_below_of : Fd := ⟨"below_of", 2, 5, b_below_of⟩
def l_above_of_1 : List Sm := [.asg (.one 4) (.tup [.op .fdiv (.op .sub (.op .add (.op .mul (.ix (.var 0) (.lit (.int 0))) (.var 3)) (.ix (.var 0) (.lit (.int 1)))) (.lit (.int 1))) (.ix (.var 0) (.lit (.int 1))), .var 3]), .ite (.and [.cmp .le (.ix (.var 4) (.lit (.int 0))) (.var 1), .or [.cmp .isN (.var 2) (.lit .non), .call 723 [.var 4, .var 2]]]) [.asg (.one 2) (.var 4)] []]
def s_above_of_1 : Sm := .for_ (.one 3) .rng2 [.lit (.int 1), .op .add (.var 1) (.lit (.int 1))] l_above_of_1
def b_above_of : List Sm := [.asg (.one 2) (.lit .non), s_above_of_1, .ret (.ite (.cmp .isN (.var 2) (.lit .non)) (.lit .non) (.call 1035 [.ix (.var 2) (.lit (.int 0)), .ix (.var 2) (.lit (.int 1))]))]
def f_above_of : Fd := ⟨"above_of", 2, 5, b_above_of⟩
def b_neighbours : List Sm := [.expr (.call 1034 [.var 0, .var 1]), .ret (.tup [.call 1036 [.var 0, .var 1], .call 1037 [.var 0, .var 1]])]
def f_neighbours : Fd := ⟨"neighbours", 2, 2, b_neighbours⟩
def b_apart : List Sm := [.ret (.tup [.bi .abs [.op .sub (.op .mul (.ix (.var 1) (.lit (.int 0))) (.ix (.var 0) (.lit (.int 1)))) (.op .mul (.ix (.var 0) (.lit (.int 0))) (.ix (.var 1) (.lit (.int 1))))], .op .mul (.ix (.var 1) (.lit (.int 1))) (.ix (.var 0) (.lit (.int 1)))])]
def f_apart : Fd := ⟨"apart", 2, 2, b_apart⟩
def e_near_of_1 : E := .lc [3] (.one 3) .seq [.tup [.call 1036 [.var 0, .var 1], .call 1037 [.var 0, .var 1]]] [.and [.cmp .notN (.var 3) (.lit .non), .cmp .gt (.ix (.var 3) (.lit (.int 0))) (.lit (.int 0))]] (.var 3)
def l_near_of_1 : List Sm := [.asg (.one 4) (.ite (.call 723 [.call 1039 [.var 0, .var 3], .call 1039 [.var 0, .var 4]]) (.var 3) (.var 4))]
def s_near_of_1 : Sm := .for_ (.one 3) .seq [.var 2] l_near_of_1
def b_near_of : List Sm := [.asg (.one 2) (e_near_of_1), .asg (.one 4) (.ix (.var 2) (.lit (.int 0))), s_near_of_1, .ret (.var 4)]
def f_near_of : Fd := ⟨"near_of", 2, 5, b_near_of⟩
def b_near_ratio : List Sm := [.expr (.call 1034 [.var 0, .var 1]), .ret (.call 1040 [.var 0, .var 1])]
def f_near_ratio : Fd := ⟨"near_ratio", 2, 2, b_near_ratio⟩
def e_shows_near_1 : E := .lc [3] (.one 3) .seq [.var 2] [] (.call 4 [.var 3, .lit (.int 1), .var 1])
def b_shows_near : List Sm := [.expr (.call 1034 [.var 0, .var 1]), .ite (.or [.not (.bi (.isi "tuple") [.var 2]), .cmp .ne (.bi .len [.var 2]) (.lit (.int 2)), .not (.bi .all [e_shows_near_1])]) [.ret (.lit (.bl false))] [], .ret (.and [.cmp .eq (.call 1021 [.ix (.var 2) (.lit (.int 0)), .ix (.var 2) (.lit (.int 1))]) (.lit (.int 1)), .not (.call 723 [.call 1039 [.var 0, .call 1040 [.var 0, .var 1]], .call 1039 [.var 0, .var 2]])])]
def f_shows_near : Fd := ⟨"shows_near", 3, 4, b_shows_near⟩
def l_steps_of_1 : List Sm := [.ite (.cmp .gt (.var 0) (.var 1)) [.asg (.one 3) (.op .fdiv (.op .sub (.var 0) (.lit (.int 1))) (.var 1)), .expr (.app (.var 2) (.tup [.glb 122, .var 3])), .asg (.one 0) (.op .sub (.var 0) (.op .mul (.var 3) (.var 1)))] [.asg (.one 3) (.op .fdiv (.op .sub (.var 1) (.lit (.int 1))) (.var 0)), .expr (.app (.var 2) (.tup [.glb 123, .var 3])), .asg (.one 1) (.op .sub (.var 1) (.op .mul (.var 3) (.var 0)))]]
def s_steps_of_1 : Sm := .whl (.cmp .ne (.var 0) (.var 1)) l_steps_of_1
def b_steps_of : List Sm := [.asg (.one 2) (.lst []), s_steps_of_1, .ret (.var 2)]
def f_steps_of : Fd := ⟨"steps_of", 2, 4, b_steps_of⟩
-- not in the small language yet: path
def b_path : List Sm := [.never]
def f_path : Fd := ⟨"path", 1, 6, b_path⟩
def e_from_path_1 : E := .lc [1] (.one 1) .seq [.var 0] [] (.cmp .isIn (.var 1) (.tup [.glb 123, .glb 122]))
def l_from_path_1 : List Sm := [.asg (.tup [2, 3]) (.ite (.cmp .eq (.var 1) (.glb 122)) (.tup [.op .add (.var 2) (.var 3), .var 3]) (.tup [.var 2, .op .add (.var 3) (.var 2)]))]
def s_from_path_1 : Sm := .for_ (.one 1) .seq [.rev (.var 0)] l_from_path_1
def b_from_path : List Sm := [.ite (.or [.not (.bi (.isi "str") [.var 0]), .cmp .gt (.bi .len [.var 0]) (.glb 125), .not (.bi .all [e_from_path_1])]) [.never] [], .asg (.tup [2, 3]) (.tup [.lit (.int 1), .lit (.int 1)]), s_from_path_1, .ret (.tup [.var 2, .var 3])]
def f_from_path : Fd := ⟨"from_path", 1, 4, b_from_path⟩
def b_check_most_v2 : List Sm := [.expr (.call 1033 [.var 0]), .ite (.not (.call 4 [.var 1, .lit (.int 1), .glb 132])) [.never] []]
def f_check_most_v2 : Fd := ⟨"check_most", 2, 2, b_check_most_v2⟩
def b_neighbours_v2 : List Sm := [.expr (.call 1094 [.var 0, .var 1]), .ret (.tup [.call 1036 [.var 0, .var 1], .call 1037 [.var 0, .var 1]])]
def f_neighbours_v2 : Fd := ⟨"neighbours", 2, 2, b_neighbours_v2⟩
def b_near_ratio_v2 : List Sm := [.expr (.call 1094 [.var 0, .var 1]), .ret (.call 1040 [.var 0, .var 1])]
def f_near_ratio_v2 : Fd := ⟨"near_ratio", 2, 2, b_near_ratio_v2⟩
def e_shows_near_v2_1 : E := .lc [3] (.one 3) .seq [.var 2] [] (.call 4 [.var 3, .lit (.int 1), .var 1])
def b_shows_near_v2 : List Sm := [.expr (.call 1094 [.var 0, .var 1]), .ite (.or [.not (.bi (.isi "tuple") [.var 2]), .cmp .ne (.bi .len [.var 2]) (.lit (.int 2)), .not (.bi .all [e_shows_near_v2_1])]) [.ret (.lit (.bl false))] [], .ret (.and [.cmp .eq (.call 1021 [.ix (.var 2) (.lit (.int 0)), .ix (.var 2) (.lit (.int 1))]) (.lit (.int 1)), .not (.call 723 [.call 1039 [.var 0, .call 1040 [.var 0, .var 1]], .call 1039 [.var 0, .var 2]])])]
def f_shows_near_v2 : Fd := ⟨"shows_near", 3, 4, b_shows_near_v2⟩
-- not in the small language yet: path_v2
def b_path_v2 : List Sm := [.never]
def f_path_v2 : Fd := ⟨"path", 1, 6, b_path_v2⟩
def c_ratios : Tab := [(1032, f_is_ratio), (1033, f_check_ratio), (1034, f_check_most), (1035, f_least), (1036, f_below_of), (1037, f_above_of), (1038, f_neighbours), (1039, f_apart), (1040, f_near_of), (1041, f_near_ratio), (1042, f_shows_near), (1050, f_steps_of), (1051, f_path), (1052, f_from_path), (1094, f_check_most_v2), (1095, f_neighbours_v2), (1096, f_near_ratio_v2), (1097, f_shows_near_v2), (1228, f_path_v2)]
theorem at_is_ratio {X : Tx} (h : Has X c_ratios) : X.T 1032 = some f_is_ratio := h.at_ (i := 0) rfl
theorem at_check_ratio {X : Tx} (h : Has X c_ratios) : X.T 1033 = some f_check_ratio := h.at_ (i := 1) rfl
theorem at_check_most {X : Tx} (h : Has X c_ratios) : X.T 1034 = some f_check_most := h.at_ (i := 2) rfl
theorem at_least {X : Tx} (h : Has X c_ratios) : X.T 1035 = some f_least := h.at_ (i := 3) rfl
theorem at_below_of {X : Tx} (h : Has X c_ratios) : X.T 1036 = some f_below_of := h.at_ (i := 4) rfl
theorem at_above_of {X : Tx} (h : Has X c_ratios) : X.T 1037 = some f_above_of := h.at_ (i := 5) rfl
theorem at_neighbours {X : Tx} (h : Has X c_ratios) : X.T 1038 = some f_neighbours := h.at_ (i := 6) rfl
theorem at_apart {X : Tx} (h : Has X c_ratios) : X.T 1039 = some f_apart := h.at_ (i := 7) rfl
theorem at_near_of {X : Tx} (h : Has X c_ratios) : X.T 1040 = some f_near_of := h.at_ (i := 8) rfl
theorem at_near_ratio {X : Tx} (h : Has X c_ratios) : X.T 1041 = some f_near_ratio := h.at_ (i := 9) rfl
theorem at_shows_near {X : Tx} (h : Has X c_ratios) : X.T 1042 = some f_shows_near := h.at_ (i := 10) rfl
theorem at_steps_of {X : Tx} (h : Has X c_ratios) : X.T 1050 = some f_steps_of := h.at_ (i := 11) rfl
theorem at_path {X : Tx} (h : Has X c_ratios) : X.T 1051 = some f_path := h.at_ (i := 12) rfl
theorem at_from_path {X : Tx} (h : Has X c_ratios) : X.T 1052 = some f_from_path := h.at_ (i := 13) rfl
theorem at_check_most_v2 {X : Tx} (h : Has X c_ratios) : X.T 1094 = some f_check_most_v2 := h.at_ (i := 14) rfl
theorem at_neighbours_v2 {X : Tx} (h : Has X c_ratios) : X.T 1095 = some f_neighbours_v2 := h.at_ (i := 15) rfl
theorem at_near_ratio_v2 {X : Tx} (h : Has X c_ratios) : X.T 1096 = some f_near_ratio_v2 := h.at_ (i := 16) rfl
theorem at_shows_near_v2 {X : Tx} (h : Has X c_ratios) : X.T 1097 = some f_shows_near_v2 := h.at_ (i := 17) rfl
theorem at_path_v2 {X : Tx} (h : Has X c_ratios) : X.T 1228 = some f_path_v2 := h.at_ (i := 18) rfl
end Pr

end
section
set_option Elab.async false
set_option linter.all false
set_option maxRecDepth 100000
set_option maxHeartbeats 1000000
namespace Pr
open PySem L2 Mi Pv
/-- a fraction: top, low -/
abbrev Fq := Nat × Nat
def fU' (f : Fq) : U := .tup [.int (f.1 : Int), .int (f.2 : Int)]
def lessQ (x y : Fq) : Bool := decide (x.1 * y.2 < y.1 * x.2)
def lowest (t l : Nat) : Fq := (t / Nat.gcd t l, l / Nat.gcd t l)
def hereB (a b m i : Nat) : Fq := (min m (a * (i + 1) / b), i + 1)
def stepB (a b m : Nat) (best : Fq) (i : Nat) : Fq := if lessQ best (hereB a b m i) = true then hereB a b m i else best
def foldB (a b m : Nat) : Fq := (List.range m).foldl (stepB a b m) (0, 1)
def belowQ (a b m : Nat) : Fq := lowest (foldB a b m).1 (foldB a b m).2
def hereA (a b i : Nat) : Fq := ((a * (i + 1) + b - 1) / b, i + 1)
def stepA (a b m : Nat) (best : Option Fq) (i : Nat) : Option Fq := if (hereA a b i).1 ≤ m ∧ (best = none ∨ ∃ x, best = some x ∧ lessQ (hereA a b i) x = true) then some (hereA a b i) else best
instance (best : Option Fq) (f : Fq) : Decidable (∃ x, best = some x ∧ lessQ f x = true) := match best with
  | none => isFalse fun ⟨_, h, _⟩ => by cases h
  | some x => if h : lessQ f x = true then isTrue ⟨x, rfl, h⟩ else isFalse fun ⟨_, e, h2⟩ => by cases e; exact h h2
def foldA (a b m : Nat) : Option Fq := (List.range m).foldl (stepA a b m) none
def aboveQ (a b m : Nat) : Option Fq := (foldA a b m).map fun f => lowest f.1 f.2
def optU : Option Fq → U
  | none => .non
  | some f => fU' f
section
variable {X : Tx} {n : Nat} {P : Ps} (hw : Has X c_words) (hc : Has X c_cogs) (hh : Has X c_chances) (hr : Has X c_ratios) (hW : 10000000 ≤ X.W)
section
include hc hW
theorem u_common {a b : Nat} (h : b < 1000000) : calU X (n + 1) 1021 [.int (a : Int), .int (b : Int)] P = some (.ok (.int (Nat.gcd a b : Nat)) P) := by
  have w : Wu (calU X (n + 1) 1021 [.int (a : Int), .int (b : Int)] P) fun u P' => u = .int (Nat.gcd a b : Nat) ∧ P' = P := by
    refine Wu_call (F := f_common) (by omega) (at_common hc) rfl ?_
    simp only [f_common, b_common, s_common_1, l_common_1, xs_cons, xs_nil, Wv_seq, x_whl]
    refine Wv_whl (fun j ρ P' => P' = P ∧ ∃ x : Nat, ρ = [some (.int x), some (.int j)] ∧ Nat.gcd x j = Nat.gcd a b) ?_ X.W b _ P (by omega) ⟨rfl, a, rfl, rfl⟩
    rintro j ρ P' ⟨rfl, x, rfl, hg⟩
    by_cases hj : j = 0
    · subst hj
      rw [Nat.gcd_zero_right] at hg
      simp [hg]
    · have hp : (0 : Int) < j := by omega
      simp [hj, size_eq, hp]
      refine ⟨by omega, x % j, Nat.mod_lt x (by omega), j, ⟨rfl, rfl⟩, ?_⟩
      rw [Nat.gcd_comm j (x % j), ← Nat.gcd_rec, Nat.gcd_comm]
      exact hg
  obtain ⟨u, P', e, rfl, rfl⟩ := w
  exact e
include hr
theorem u_least {t l : Nat} (h0 : 0 < l) (h : l < 1000000) : calU X (n + 2) 1035 [.int (t : Int), .int (l : Int)] P = some (.ok (fU' (lowest t l)) P) := by
  rw [call_eq (by omega) (at_least hr) rfl]
  have g0 : 0 < Nat.gcd t l := Nat.gcd_pos_of_pos_right _ h0
  have g1 : Nat.gcd t l ≤ l := Nat.gcd_le_right _ h0
  have hf : fdB ((Nat.gcd t l : Nat) : Int) = true := fdB_p (by omega) (by omega)
  simp [f_least, b_least, u_common hc hW h, hf, size_eq, fU', lowest]
end
section
include hh
theorem u_is_less {x y : Fq} (h1 : x.1 < 2 ^ 60) (h2 : x.2 < 2 ^ 60) : calU X (n + 1) 723 [fU' x, fU' y] P = some (.ok (.bl (lessQ x y)) P) := by
  rw [call_eq (by omega) (at_is_less hh) rfl]
  have m1 : mulB (x.1 : Int) (y.2 : Int) = true := mulB_l (by omega) (by omega)
  have m2 : mulB (y.1 : Int) (x.2 : Int) = true := mulB_r (by omega) (by omega)
  have e : decide ((x.1 : Int) * (y.2 : Int) < (y.1 : Int) * (x.2 : Int)) = lessQ x y := by
    unfold lessQ
    rw [Bool.eq_iff_iff, decide_eq_true_eq, decide_eq_true_eq, ← Int.natCast_mul, ← Int.natCast_mul]
    exact Int.ofNat_lt
  simp only [f_is_less, b_is_less, fU', xs_cons, xs_nil, x_ret, eu_cmp, eu_op, eu_ix, eu_var, eu_int, bndV_ok, ix_tupU, at0, at1, liftU_some, ou_mul, m1, m2, if_true, cu_lt, e, Option.map_some, bndO_ok, seqO_rt, finO_rt, List.getElem?_cons_zero, List.getElem?_cons_succ, List.map_cons, List.map_nil, List.cons_append, List.nil_append]
end
section
include hw
theorem u_is_ratio {a b : Nat} (hG : X.G 121 = some (.int 1000000)) (ha : 1 ≤ a ∧ a ≤ 1000000) (hb : 1 ≤ b ∧ b ≤ 1000000) (hr : Has X c_ratios) : calU X (n + 3) 1032 [fU' (a, b)] P = some (.ok (.bl true) P) := by
  rw [call_eq (by omega) (at_is_ratio hr) rfl]
  have ht : isiU "tuple" (fU' (a, b)) = some true := is_tup (u := fU' (a, b)) rfl
  have hl : evU X.G (calU X (n + 2)) e_is_ratio_1 [some (fU' (a, b)), none] P = some (.ok (.lst ([(a : Int), (b : Int)].map fun _ => U.bl true)) P) := by
    refine lc_all (xs := [(a : Int), (b : Int)]) U.int (fun _ => U.bl true) (ds := [fU' (a, b)]) (by simp) rfl (fun b hb => by simp) (fun i hi => ?_) (by simp [size_eq])
    have hi2 : i = (a : Int) ∨ i = (b : Int) := by simpa using hi
    simp [hG, u_is_between hw (u := .int i) rfl, inB]
    rcases hi2 with rfl | rfl <;> omega
  have hn : biU .len [fU' (a, b)] = some (.int 2) := rfl
  have hb2 : biU .all [.lst [U.bl true, U.bl true]] = some (.bl true) := rfl
  simp [f_is_ratio, b_is_ratio, ht, hl, hn, hb2]
theorem u_check_ratio {a b : Nat} (hG : X.G 121 = some (.int 1000000)) (ha : 1 ≤ a ∧ a ≤ 1000000) (hb : 1 ≤ b ∧ b ≤ 1000000) (hr : Has X c_ratios) : calU X (n + 4) 1033 [fU' (a, b)] P = some (.ok .non P) := by
  rw [call_eq (by omega) (at_check_ratio hr) rfl]
  simp [f_check_ratio, b_check_ratio, u_is_ratio hw hG ha hb hr]
theorem u_check_most {a b m : Nat} (hG : X.G 121 = some (.int 1000000)) (hG2 : X.G 120 = some (.int 200)) (ha : 1 ≤ a ∧ a ≤ 1000000) (hb : 1 ≤ b ∧ b ≤ 1000000) (hm : 1 ≤ m ∧ m ≤ 200) (hr : Has X c_ratios) : calU X (n + 5) 1034 [fU' (a, b), .int (m : Int)] P = some (.ok .non P) := by
  rw [call_eq (by omega) (at_check_most hr) rfl]
  have e : inB 1 200 (.int (m : Int)) = true := by simp [inB]; omega
  simp [f_check_most, b_check_most, u_check_ratio hw hG ha hb hr, hG2, u_is_between hw (u := .int (m : Int)) rfl, e]
end
end
end Pr
namespace Pr
open PySem L2 Mi Pv
/-! ### the neighbours -/
theorem foldB_mem (a b m : Nat) (hm : 0 < m) : ∀ (l : List Nat) (s : Fq), (∀ i ∈ l, i < m) → s.1 ≤ m ∧ 1 ≤ s.2 ∧ s.2 ≤ m → (l.foldl (stepB a b m) s).1 ≤ m ∧ 1 ≤ (l.foldl (stepB a b m) s).2 ∧ (l.foldl (stepB a b m) s).2 ≤ m
  | [], s, _, h => h
  | i :: l, s, hl, h => by
    rw [List.foldl_cons]
    refine foldB_mem a b m hm l _ (fun j hj => hl j (List.mem_cons_of_mem _ hj)) ?_
    unfold stepB
    split
    · have := hl i List.mem_cons_self
      exact ⟨Nat.min_le_left _ _, by show 1 ≤ i + 1; omega, by show i + 1 ≤ m; omega⟩
    · exact h
theorem foldA_mem (a b m : Nat) : ∀ (l : List Nat) (s : Option Fq), (∀ i ∈ l, i < m) → (∀ f, s = some f → f.1 ≤ m ∧ 1 ≤ f.2 ∧ f.2 ≤ m) → ∀ f, l.foldl (stepA a b m) s = some f → f.1 ≤ m ∧ 1 ≤ f.2 ∧ f.2 ≤ m
  | [], s, _, h => h
  | i :: l, s, hl, h => by
    rw [List.foldl_cons]
    refine foldA_mem a b m l _ (fun j hj => hl j (List.mem_cons_of_mem _ hj)) ?_
    intro f hf
    unfold stepA at hf
    split at hf
    · rename_i g
      cases hf
      have := hl i List.mem_cons_self
      exact ⟨g.1, by show 1 ≤ i + 1; omega, by show i + 1 ≤ m; omega⟩
    · exact h f hf
section
variable {X : Tx} {n : Nat} {P : Ps} {a b m : Nat}
/-- what the laws draw: ratios to a million, bounds to two hundred -/
structure Rt (a b m : Nat) : Prop where
  a1 : 1 ≤ a
  a2 : a ≤ 1000000
  b1 : 1 ≤ b
  b2 : b ≤ 1000000
  m1 : 1 ≤ m
  m2 : m ≤ 200
theorem u_below_of (hc : Has X c_cogs) (hh : Has X c_chances) (hr : Has X c_ratios) (hW : 10000000 ≤ X.W) (h : Rt a b m) : calU X (n + 3) 1036 [fU' (a, b), .int (m : Int)] P = some (.ok (fU' (belowQ a b m)) P) := by
  obtain ⟨a1, a2, b1, b2, m1, m2⟩ := h
  rw [call_eq (by omega) (at_below_of hr) rfl]
  have hb : rngB 1 ((m : Int) + 1) = true := rngB_of (by omega) (by omega) (by omega) (by omega)
  have ix0 : ∀ f : Fq, ixU (fU' f) (.int 0) = some (.int (f.1 : Int)) := fun f => (ix_tupU _ _).trans (at0 _ _)
  have ix1 : ∀ f : Fq, ixU (fU' f) (.int 1) = some (.int (f.2 : Int)) := fun f => (ix_tupU _ _).trans (at1 _ _ _)
  have key : ∃ ρ', exU X.G X.W (calU X (n + 2)) s_below_of_1 [some (fU' (a, b)), some (.int (m : Int)), some (fU' (0, 1)), none, none] P = some (.nx ρ' P) ∧ ((foldB a b m).1 ≤ m ∧ 1 ≤ (foldB a b m).2 ∧ (foldB a b m).2 ≤ m) ∧ ∃ o3 o4, ρ' = [some (fU' (a, b)), some (.int (m : Int)), some (fU' (foldB a b m)), o3, o4] := by
    refine x_for_fold (fun (i : Nat) => U.int ((i + 1 : Nat) : Int)) (stepB a b m) (fun s ρ => (s.1 ≤ m ∧ 1 ≤ s.2 ∧ s.2 ≤ m) ∧ ∃ o3 o4, ρ = [some (fU' (a, b)), some (.int (m : Int)), some (fU' s), o3, o4]) (List.range m) (0, 1) (ds := [.int 1, .int ((m : Int) + 1)]) (by simp) (by rw [iu_rng2, hb, if_pos rfl, rg1]) ⟨⟨by omega, by omega, by omega⟩, none, none, rfl⟩ ?_
    rintro s i ρ hi ⟨hs, o3, o4, rfl⟩
    have hi := List.mem_range.mp hi
    have m1' : mulB (a : Int) ((i : Int) + 1) = true := mulB_l (by omega) (by omega)
    have f1 : fdB (b : Int) = true := fdB_p (by omega) (by omega)
    have eh : U.tup [.int (if (a : Int) * ((i : Int) + 1) / (b : Int) < (m : Int) then (a : Int) * ((i : Int) + 1) / (b : Int) else (m : Int)), .int ((i : Int) + 1)] = fU' (hereB a b m i) := by
      unfold fU' hereB
      have e1 : (a : Int) * ((i : Int) + 1) / (b : Int) = ((a * (i + 1) / b : Nat) : Int) := by
        rw [Int.natCast_ediv, Int.natCast_mul]
        rfl
      rw [e1]
      congr 3
      split <;> omega
    have hl := u_is_less (X := X) (n := n + 1) (P := P) hh (x := s) (y := hereB a b m i) (by have := hs.1; omega) (by have := hs.2.2; omega)
    refine ⟨_, [some (fU' (a, b)), some (.int (m : Int)), some (fU' (stepB a b m s i)), some (.int ((i + 1 : Nat) : Int)), some (fU' (hereB a b m i))], rfl, ?_, ⟨?_, _, _, rfl⟩⟩
    · simp [l_below_of_1, ix0, ix1, m1', f1, size_eq, eh, hl]
      unfold stepB
      split <;> rfl
    · unfold stepB
      split
      · exact ⟨Nat.min_le_left _ _, by show 1 ≤ i + 1; omega, by show i + 1 ≤ m; omega⟩
      · exact hs
  obtain ⟨ρ', e, ⟨_, h1, h2⟩, o3, o4, rfl⟩ := key
  have hle := u_least (X := X) (n := n) (P := P) hc hr hW (t := (foldB a b m).1) (l := (foldB a b m).2) (by omega) (by omega)
  have e0 : U.tup [.int 0, .int 1] = fU' (0, 1) := rfl
  simp [f_below_of, b_below_of, size_eq, e0, e, ix0, ix1, hle]
  rfl
end
end Pr
namespace Pr
open PySem L2 Mi Pv
theorem fq0 (f : Fq) : ixU (fU' f) (.int 0) = some (.int (f.1 : Int)) := (ix_tupU _ _).trans (at0 _ _)
theorem fq1 (f : Fq) : ixU (fU' f) (.int 1) = some (.int (f.2 : Int)) := (ix_tupU _ _).trans (at1 _ _ _)
def absN (x y : Nat) : Nat := if x < y then y - x else x - y
/-- how far apart, as a fraction -/
def apartQ (a b : Nat) (f : Fq) : Fq := (absN (f.1 * b) (a * f.2), f.2 * b)
def stepN (a b : Nat) (best one : Fq) : Fq := if lessQ (apartQ a b one) (apartQ a b best) = true then one else best
/-- the nearest of some -/
def nearest (a b : Nat) : List Fq → Option Fq
  | [] => none
  | f :: l => some ((f :: l).foldl (stepN a b) f)
def sides (a b m : Nat) : List Fq := ([some (belowQ a b m), aboveQ a b m].filterMap id).filter fun f => decide (0 < f.1)
section
variable {X : Tx} {n : Nat} {P : Ps} {a b m : Nat}
theorem u_above_of (hc : Has X c_cogs) (hh : Has X c_chances) (hr : Has X c_ratios) (hW : 10000000 ≤ X.W) (h : Rt a b m) : calU X (n + 3) 1037 [fU' (a, b), .int (m : Int)] P = some (.ok (optU (aboveQ a b m)) P) := by
  obtain ⟨a1, a2, b1, b2, m1, m2⟩ := h
  rw [call_eq (by omega) (at_above_of hr) rfl]
  have hb : rngB 1 ((m : Int) + 1) = true := rngB_of (by omega) (by omega) (by omega) (by omega)
  have key : ∃ ρ', exU X.G X.W (calU X (n + 2)) s_above_of_1 [some (fU' (a, b)), some (.int (m : Int)), some .non, none, none] P = some (.nx ρ' P) ∧ (∀ f, foldA a b m = some f → f.1 ≤ m ∧ 1 ≤ f.2 ∧ f.2 ≤ m) ∧ ∃ o3 o4, ρ' = [some (fU' (a, b)), some (.int (m : Int)), some (optU (foldA a b m)), o3, o4] := by
    refine x_for_fold (fun (i : Nat) => U.int ((i + 1 : Nat) : Int)) (stepA a b m) (fun s ρ => (∀ f, s = some f → f.1 ≤ m ∧ 1 ≤ f.2 ∧ f.2 ≤ m) ∧ ∃ o3 o4, ρ = [some (fU' (a, b)), some (.int (m : Int)), some (optU s), o3, o4]) (List.range m) none (ds := [.int 1, .int ((m : Int) + 1)]) (by simp) (by rw [iu_rng2, hb, if_pos rfl, rg1]) ⟨fun _ h => (by cases h), none, none, rfl⟩ ?_
    rintro s i ρ hi ⟨hs, o3, o4, rfl⟩
    have hi := List.mem_range.mp hi
    have m1' : mulB (a : Int) ((i : Int) + 1) = true := mulB_l (by omega) (by omega)
    have f1 : fdB (b : Int) = true := fdB_p (by omega) (by omega)
    have e1 : ((a : Int) * ((i : Int) + 1) + (b : Int) - 1) / (b : Int) = ((a * (i + 1) + b - 1) / b : Nat) := by
      rw [Int.natCast_ediv, Int.natCast_sub (by omega), Int.natCast_add, Int.natCast_mul]
      rfl
    have eh : U.tup [.int (((a : Int) * ((i : Int) + 1) + (b : Int) - 1) / (b : Int)), .int ((i : Int) + 1)] = fU' (hereA a b i) := by
      unfold fU' hereA
      rw [e1]
      rfl
    refine ⟨_, [some (fU' (a, b)), some (.int (m : Int)), some (optU (stepA a b m s i)), some (.int ((i + 1 : Nat) : Int)), some (fU' (hereA a b i))], rfl, ?_, ⟨?_, _, _, rfl⟩⟩
    · have hle : decide ((((hereA a b i).1 : Nat) : Int) ≤ (m : Int)) = decide ((hereA a b i).1 ≤ m) := by
        rw [Bool.eq_iff_iff, decide_eq_true_eq, decide_eq_true_eq]
        omega
      by_cases hm : (hereA a b i).1 ≤ m
      · cases s with
        | none =>
          have hst : stepA a b m none i = some (hereA a b i) := by unfold stepA; rw [if_pos ⟨hm, .inl rfl⟩]
          simp [l_above_of_1, fq0, fq1, m1', f1, size_eq, eh, optU, isNonU, hm, hst]
        | some f =>
          have hl := u_is_less (X := X) (n := n + 1) (P := P) hh (x := hereA a b i) (y := f) (by omega) (by show i + 1 < 2 ^ 60; omega)
          have hnon : isNonU (fU' f) = false := rfl
          cases q : lessQ (hereA a b i) f with
          | true =>
            have hst : stepA a b m (some f) i = some (hereA a b i) := by unfold stepA; rw [if_pos ⟨hm, .inr ⟨f, rfl, q⟩⟩]
            simp [l_above_of_1, fq0, fq1, m1', f1, size_eq, eh, optU, hnon, hm, hst, hl, q]
          | false =>
            have hst : stepA a b m (some f) i = some f := by
              unfold stepA
              rw [if_neg]
              rintro ⟨_, z | ⟨x, e, z⟩⟩
              · cases z
              · cases e
                rw [q] at z
                cases z
            simp [l_above_of_1, fq0, fq1, m1', f1, size_eq, eh, optU, hnon, hm, hst, hl, q]
      · have hst : stepA a b m s i = s := by unfold stepA; rw [if_neg fun z => hm z.1]
        have hm' : ¬ (((hereA a b i).1 : Nat) : Int) ≤ (m : Int) := by omega
        simp [l_above_of_1, fq0, fq1, m1', f1, size_eq, eh, hm, hst]
    · intro f hf
      unfold stepA at hf
      split at hf
      · rename_i g
        cases hf
        exact ⟨g.1, by show 1 ≤ i + 1; omega, by show i + 1 ≤ m; omega⟩
      · exact hs f hf
  obtain ⟨ρ', e, h1, o3, o4, rfl⟩ := key
  unfold aboveQ
  cases q : foldA a b m with
  | none =>
    rw [q] at e
    simp [f_above_of, b_above_of, e, optU, isNonU]
  | some f =>
    rw [q] at e
    obtain ⟨g1, g2, g3⟩ := h1 f q
    have hle := u_least (X := X) (n := n) (P := P) hc hr hW (t := f.1) (l := f.2) (by omega) (by omega)
    have hnon : isNonU (fU' f) = false := rfl
    simp [f_above_of, b_above_of, e, optU, hnon, fq0, fq1, hle]
theorem u_neighbours (hw : Has X c_words) (hG : X.G 121 = some (.int 1000000)) (hG2 : X.G 120 = some (.int 200)) (hc : Has X c_cogs) (hh : Has X c_chances) (hr : Has X c_ratios) (hW : 10000000 ≤ X.W) (h : Rt a b m) :
    calU X (n + 6) 1038 [fU' (a, b), .int (m : Int)] P = some (.ok (.tup [fU' (belowQ a b m), optU (aboveQ a b m)]) P) := by
  rw [call_eq (by omega) (at_neighbours hr) rfl]
  have h1 := u_check_most (X := X) (n := n) (P := P) hw hG hG2 ⟨h.a1, h.a2⟩ ⟨h.b1, h.b2⟩ ⟨h.m1, h.m2⟩ hr
  have h2 := u_below_of (X := X) (n := n + 2) (P := P) hc hh hr hW h
  have h3 := u_above_of (X := X) (n := n + 2) (P := P) hc hh hr hW h
  simp [f_neighbours, b_neighbours, h1, h2, h3, size_eq]
theorem u_apart (hr : Has X c_ratios) {f : Fq} (ha : a < 2 ^ 60) (hb : b < 2 ^ 60) (hf1 : f.1 < 2 ^ 60) (hf2 : f.2 < 2 ^ 60) : calU X (n + 1) 1039 [fU' (a, b), fU' f] P = some (.ok (fU' (apartQ a b f)) P) := by
  rw [call_eq (by omega) (at_apart hr) rfl]
  have m1 : mulB (f.1 : Int) (b : Int) = true := mulB_l (by omega) (by omega)
  have m2 : mulB (a : Int) (f.2 : Int) = true := mulB_l (by omega) (by omega)
  have m3 : mulB (f.2 : Int) (b : Int) = true := mulB_l (by omega) (by omega)
  have e : U.tup [.int (if (f.1 : Int) * (b : Int) - (a : Int) * (f.2 : Int) < 0 then -((f.1 : Int) * (b : Int) - (a : Int) * (f.2 : Int)) else (f.1 : Int) * (b : Int) - (a : Int) * (f.2 : Int)), .int ((f.2 : Int) * (b : Int))] = fU' (apartQ a b f) := by
    unfold fU' apartQ absN
    rw [← Int.natCast_mul, ← Int.natCast_mul, ← Int.natCast_mul]
    congr 3
    generalize f.1 * b = x
    generalize a * f.2 = y
    split <;> split <;> omega
  simp only [f_apart, b_apart, xs_cons, xs_nil, x_ret, eu_tup, eus_cons, eus_nil, eu_bi, eu_op, eu_ix, eu_var, eu_int, fq0, fq1, liftU_some, bndV_ok, ou_mul, ou_sub, m1, m2, m3, if_true, bu_abs, bndO_ok, seqO_rt, finO_rt, List.getElem?_cons_zero, List.getElem?_cons_succ, List.map_cons, List.map_nil, List.cons_append, List.nil_append, List.length_cons, List.length_nil, e]
  rw [if_pos (by rw [size_eq]; omega)]
  simp
end
end Pr
namespace Pr
open PySem L2 Mi Pv
theorem lowest_le (t l : Nat) : (lowest t l).1 ≤ t ∧ (lowest t l).2 ≤ l := ⟨Nat.div_le_self _ _, Nat.div_le_self _ _⟩
theorem belowQ_le {a b m : Nat} (hm : 1 ≤ m) : (belowQ a b m).1 ≤ m ∧ (belowQ a b m).2 ≤ m := by
  obtain ⟨h1, h2, h3⟩ := foldB_mem a b m hm (List.range m) (0, 1) (fun i hi => List.mem_range.mp hi) ⟨Nat.zero_le _, Nat.le_refl _, hm⟩
  obtain ⟨l1, l2⟩ := lowest_le (foldB a b m).1 (foldB a b m).2
  exact ⟨Nat.le_trans l1 h1, Nat.le_trans l2 h3⟩
theorem aboveQ_le {a b m : Nat} {f : Fq} (h : aboveQ a b m = some f) : f.1 ≤ m ∧ f.2 ≤ m := by
  unfold aboveQ at h
  obtain ⟨g, e, rfl⟩ := Option.map_eq_some_iff.mp h
  obtain ⟨h1, h2, h3⟩ := foldA_mem a b m (List.range m) none (fun i hi => List.mem_range.mp hi) (fun _ z => by cases z) g e
  obtain ⟨l1, l2⟩ := lowest_le g.1 g.2
  exact ⟨Nat.le_trans l1 h1, Nat.le_trans l2 h3⟩
theorem sides_le {a b m : Nat} (hm : 1 ≤ m) {f : Fq} (h : f ∈ sides a b m) : f.1 ≤ m ∧ f.2 ≤ m := by
  unfold sides at h
  have h := (List.mem_filter.mp h).1
  obtain ⟨o, ho, e⟩ := List.mem_filterMap.mp h
  have e : o = some f := e
  subst e
  simp only [List.mem_cons, List.not_mem_nil, or_false] at ho
  rcases ho with ho | ho
  · cases ho
    exact belowQ_le hm
  · exact aboveQ_le ho.symm
theorem absN_le (x y : Nat) : absN x y ≤ max x y := by unfold absN; split <;> omega
theorem apart_small {a b m : Nat} {f : Fq} (h : Rt a b m) (hf : f.1 ≤ 1000 ∧ f.2 ≤ 1000) : (apartQ a b f).1 < 2 ^ 60 ∧ (apartQ a b f).2 < 2 ^ 60 := by
  have h1 : f.1 * b ≤ 1000 * 1000000 := Nat.mul_le_mul hf.1 h.b2
  have h2 : a * f.2 ≤ 1000000 * 1000 := Nat.mul_le_mul h.a2 hf.2
  have h3 : f.2 * b ≤ 1000 * 1000000 := Nat.mul_le_mul hf.2 h.b2
  have := absN_le (f.1 * b) (a * f.2)
  refine ⟨?_, ?_⟩
  · show absN (f.1 * b) (a * f.2) < 2 ^ 60
    omega
  · show f.2 * b < 2 ^ 60
    omega
/-- what the judge says -/
def showsQ (a b m : Nat) (near : Fq) : U → Bool
  | .tup [.int x, .int y] => (decide (1 ≤ x) && decide (x ≤ m)) && ((decide (1 ≤ y) && decide (y ≤ m)) && (decide (Nat.gcd x.toNat y.toNat = 1) && !lessQ (apartQ a b near) (apartQ a b (x.toNat, y.toNat))))
  | _ => false
section
variable {X : Tx} {n : Nat} {P : Ps} {a b m : Nat}
theorem u_near_of (hc : Has X c_cogs) (hh : Has X c_chances) (hr : Has X c_ratios) (hW : 10000000 ≤ X.W) (h : Rt a b m) {r : Fq} (hn : nearest a b (sides a b m) = some r) : calU X (n + 4) 1040 [fU' (a, b), .int (m : Int)] P = some (.ok (fU' r) P) := by
  rw [call_eq (by omega) (at_near_of hr) rfl]
  have h2 := u_below_of (X := X) (n := n) (P := P) hc hh hr hW h
  have h3 := u_above_of (X := X) (n := n) (P := P) hc hh hr hW h
  have hh' := h
  obtain ⟨a1, a2, b1, b2, m1, m2⟩ := h
  have e1 : evU X.G (calU X (n + 3)) e_near_of_1 [some (fU' (a, b)), some (.int (m : Int)), none, none, none] P = some (.ok (.lst ((sides a b m).map fU')) P) := by
    have z := lc_eq (G := X.G) (cal := calU X (n + 3)) (ρ := [some (fU' (a, b)), some (.int (m : Int)), none, none, none]) (P := P) (vs := [3]) (t := .one 3) (k := .seq) (its := [.tup [.call 1036 [.var 0, .var 1], .call 1037 [.var 0, .var 1]]]) (cs := [.and [.cmp .notN (.var 3) (.lit .non), .cmp .gt (.ix (.var 3) (.lit (.int 0))) (.lit (.int 0))]]) (elt := .var 3)
      (ds := [.tup [fU' (belowQ a b m), optU (aboveQ a b m)]]) (xs := [some (belowQ a b m), aboveQ a b m]) optU (fun o => match o with | none => false | some f => decide (0 < f.1)) optU (by simp [h2, h3, size_eq]) rfl (fun o ho => ?_) (fun o ho hp => by simp) (by
        refine Nat.le_trans (List.length_filter_le _ _) ?_
        rw [size_eq]
        simp)
    · have es : (List.map optU (List.filter (fun o => match o with | none => false | some f => decide (0 < f.1)) [some (belowQ a b m), aboveQ a b m])) = (sides a b m).map fU' := by
        unfold sides
        cases aboveQ a b m with
        | none => by_cases q : 0 < (belowQ a b m).1 <;> simp [q, optU]
        | some f => by_cases q : 0 < (belowQ a b m).1 <;> by_cases q2 : 0 < f.1 <;> simp [q, q2, optU]
      rw [← es]
      exact z
    · cases o with
      | none => simp [optU, isNonU]
      | some f =>
        have hnon : isNonU (fU' f) = false := rfl
        by_cases q : 0 < f.1 <;> simp [optU, hnon, fq0, q]
  cases q : sides a b m with
  | nil => rw [q] at hn; cases hn
  | cons f l =>
    rw [q] at hn e1
    have hn : (f :: l).foldl (stepN a b) f = r := Option.some.inj hn
    have hs : ∀ g ∈ f :: l, g.1 ≤ m ∧ g.2 ≤ m := fun g hg => sides_le m1 (by rw [q]; exact hg)
    have key : ∃ ρ', exU X.G X.W (calU X (n + 3)) s_near_of_1 [some (fU' (a, b)), some (.int (m : Int)), some (.lst ((f :: l).map fU')), none, some (fU' f)] P = some (.nx ρ' P) ∧ (((f :: l).foldl (stepN a b) f).1 ≤ m ∧ ((f :: l).foldl (stepN a b) f).2 ≤ m) ∧ ∃ o3, ρ' = [some (fU' (a, b)), some (.int (m : Int)), some (.lst ((f :: l).map fU')), o3, some (fU' ((f :: l).foldl (stepN a b) f))] := by
      refine x_for_fold fU' (stepN a b) (fun s ρ => (s.1 ≤ m ∧ s.2 ≤ m) ∧ ∃ o3, ρ = [some (fU' (a, b)), some (.int (m : Int)), some (.lst ((f :: l).map fU')), o3, some (fU' s)]) (f :: l) f (ds := [.lst ((f :: l).map fU')]) (by simp) rfl ⟨hs f List.mem_cons_self, none, rfl⟩ ?_
      rintro s g ρ hg ⟨hsm, o3, rfl⟩
      have hgm := hs g hg
      have p1 := u_apart (X := X) (n := n + 2) (P := P) (a := a) (b := b) hr (f := g) (by omega) (by omega) (by omega) (by omega)
      have p2 := u_apart (X := X) (n := n + 2) (P := P) (a := a) (b := b) hr (f := s) (by omega) (by omega) (by omega) (by omega)
      obtain ⟨s1, s2⟩ := apart_small (m := m) hh' (f := g) ⟨by omega, by omega⟩
      have hl := u_is_less (X := X) (n := n + 2) (P := P) hh (x := apartQ a b g) (y := apartQ a b s) s1 s2
      refine ⟨_, [some (fU' (a, b)), some (.int (m : Int)), some (.lst ((f :: l).map fU')), some (fU' g), some (fU' (stepN a b s g))], rfl, ?_, ⟨?_, _, rfl⟩⟩
      · simp [l_near_of_1, p1, p2, hl]
        unfold stepN
        split <;> rfl
      · unfold stepN
        split
        · exact hgm
        · exact hsm
    obtain ⟨ρ', e, _, o3, rfl⟩ := key
    rw [hn] at e
    simp only [List.map_cons] at e e1
    simp [f_near_of, b_near_of, e1, e]
theorem u_near_ratio (hw : Has X c_words) (hG : X.G 121 = some (.int 1000000)) (hG2 : X.G 120 = some (.int 200)) (hc : Has X c_cogs) (hh : Has X c_chances) (hr : Has X c_ratios) (hW : 10000000 ≤ X.W) (h : Rt a b m) {r : Fq} (hn : nearest a b (sides a b m) = some r) : calU X (n + 6) 1041 [fU' (a, b), .int (m : Int)] P = some (.ok (fU' r) P) := by
  rw [call_eq (by omega) (at_near_ratio hr) rfl]
  have h1 := u_check_most (X := X) (n := n) (P := P) hw hG hG2 ⟨h.a1, h.a2⟩ ⟨h.b1, h.b2⟩ ⟨h.m1, h.m2⟩ hr
  have h2 := u_near_of (X := X) (n := n + 1) (P := P) hc hh hr hW h hn
  simp [f_near_ratio, b_near_ratio, h1, h2]
theorem u_shows_near (hw : Has X c_words) (hG : X.G 121 = some (.int 1000000)) (hG2 : X.G 120 = some (.int 200)) (hc : Has X c_cogs) (hh : Has X c_chances) (hr : Has X c_ratios) (hW : 10000000 ≤ X.W) (h : Rt a b m) {r : Fq} (hn : nearest a b (sides a b m) = some r) (hrm : r.1 ≤ m ∧ r.2 ≤ m)
    {v : U} (hv : v.rd ≤ 8) : calU X (n + 6) 1042 [fU' (a, b), .int (m : Int), v] P = some (.ok (.bl (showsQ a b m r v)) P) := by
  rw [call_eq (by omega) (at_shows_near hr) rfl]
  have h1 := u_check_most (X := X) (n := n) (P := P) hw hG hG2 ⟨h.a1, h.a2⟩ ⟨h.b1, h.b2⟩ ⟨h.m1, h.m2⟩ hr
  have h2 := u_near_of (X := X) (n := n + 1) (P := P) hc hh hr hW h hn
  have np : isPotU v = false := by
    cases v with
    | pot k => rw [U.rd] at hv; omega
    | _ => rfl
  cases v with
  | tup xs =>
    have ht : isiU "tuple" (.tup xs) = some true := is_tup (u := .tup xs) rfl
    have nps : ∀ x ∈ xs, isPotU x = false := fun x hx => by
      have hx2 : ∀ l : List U, U.rds l ≤ 8 → ∀ x ∈ l, x.rd ≤ 8 := fun l => by
        induction l with
        | nil => intro _ x hx; cases hx
        | cons y l ih =>
          intro hl x hx
          rw [U.rds] at hl
          rcases List.mem_cons.mp hx with rfl | hx
          · omega
          · exact ih (by omega) x hx
      rw [U.rd] at hv
      have := hx2 xs hv x hx
      cases x with
      | pot k => rw [U.rd] at this; omega
      | _ => rfl
    match xs, nps with
    | [], _ => simp [f_shows_near, b_shows_near, h1, is_tup (u := .tup []) rfl, isTupU, showsQ]
    | [x], _ => simp [f_shows_near, b_shows_near, h1, is_tup (u := .tup [x]) rfl, isTupU, showsQ]
    | x :: y :: z :: l, _ =>
      have hl : ¬ ((l.length : Int) + 1 + 1 + 1 = 2) := by omega
      simp [f_shows_near, b_shows_near, h1, is_tup (u := .tup (x :: y :: z :: l)) rfl, isTupU, showsQ, hl]
    | [x, y], nps =>
      have el : evU X.G (calU X (n + 5)) e_shows_near_1 [some (fU' (a, b)), some (.int (m : Int)), some (.tup [x, y]), none] P = some (.ok (.lst ([x, y].map fun u => .bl (inB 1 m u))) P) := by
        refine lc_all (xs := [x, y]) id (fun u => .bl (inB 1 m u)) (ds := [.tup [x, y]]) (by simp) (by simp) (fun b hb => by simp) (fun u hu => ?_) (by simp [size_eq])
        simp [u_is_between hw (nps u hu)]
      have ha : ∀ p q : Bool, biU .all [.lst [U.bl p, U.bl q]] = some (.bl (p && (q && true))) := fun p q => rfl
      cases hx : inB 1 m x with
      | false =>
        have es : showsQ a b m r (.tup [x, y]) = false := by
          cases x <;> first | rfl | skip
          rename_i i
          cases y <;> first | rfl | skip
          rename_i j
          have hx : (decide (1 ≤ i) && decide (i ≤ (m : Int))) = false := hx
          show ((decide (1 ≤ i) && decide (i ≤ (m : Int))) && _) = false
          rw [hx]
          rfl
        simp [f_shows_near, b_shows_near, h1, is_tup (u := .tup [x, y]) rfl, isTupU, es, el, ha, hx]
      | true =>
        cases hy : inB 1 m y with
        | false =>
          have es : showsQ a b m r (.tup [x, y]) = false := by
            cases x <;> first | rfl | skip
            rename_i i
            cases y <;> first | rfl | skip
            rename_i j
            have hy : (decide (1 ≤ j) && decide (j ≤ (m : Int))) = false := hy
            show ((decide (1 ≤ i) && decide (i ≤ (m : Int))) && ((decide (1 ≤ j) && decide (j ≤ (m : Int))) && _)) = false
            rw [hy]
            simp
          simp [f_shows_near, b_shows_near, h1, is_tup (u := .tup [x, y]) rfl, isTupU, es, el, ha, hx, hy]
        | true =>
          obtain ⟨i, rfl, i1, i2⟩ := inB_int.mp hx
          obtain ⟨j, rfl, j1, j2⟩ := inB_int.mp hy
          obtain ⟨i, rfl⟩ := Int.eq_ofNat_of_zero_le (show 0 ≤ i by omega)
          obtain ⟨j, rfl⟩ := Int.eq_ofNat_of_zero_le (show 0 ≤ j by omega)
          have hm := h.m2
          have hg := u_common (X := X) (n := n + 4) (P := P) hc hW (a := i) (b := j) (by omega)
          have hab : a < 2 ^ 60 ∧ b < 2 ^ 60 := ⟨by have := h.a2; omega, by have := h.b2; omega⟩
          have p1 := u_apart (X := X) (n := n + 4) (P := P) (a := a) (b := b) hr (f := r) hab.1 hab.2 (by omega) (by omega)
          have p2 := u_apart (X := X) (n := n + 4) (P := P) (a := a) (b := b) hr (f := (i, j)) hab.1 hab.2 (by show i < 2 ^ 60; omega) (by show j < 2 ^ 60; omega)
          have p2' : calU X (n + 5) 1039 [fU' (a, b), .tup [.int (i : Int), .int (j : Int)]] P = some (.ok (fU' (apartQ a b (i, j))) P) := p2
          obtain ⟨s1, s2⟩ := apart_small (m := m) h (f := r) ⟨by omega, by omega⟩
          have hl := u_is_less (X := X) (n := n + 4) (P := P) hh (x := apartQ a b r) (y := apartQ a b (i, j)) s1 s2
          have es : showsQ a b m r (.tup [.int (i : Int), .int (j : Int)]) = (decide (Nat.gcd i j = 1) && !lessQ (apartQ a b r) (apartQ a b (i, j))) := by
            show ((decide (1 ≤ (i : Int)) && decide ((i : Int) ≤ (m : Int))) && ((decide (1 ≤ (j : Int)) && decide ((j : Int) ≤ (m : Int))) && _)) = _
            rw [decide_eq_true i1, decide_eq_true i2, decide_eq_true j1, decide_eq_true j2]
            rfl
          have eg : decide (((Nat.gcd i j : Nat) : Int) = 1) = decide (Nat.gcd i j = 1) := by
            rw [Bool.eq_iff_iff, decide_eq_true_eq, decide_eq_true_eq]
            omega
          rw [es]
          by_cases hgc : Nat.gcd i j = 1
          · simp [f_shows_near, b_shows_near, h1, is_tup (u := .tup [.int (i : Int), .int (j : Int)]) rfl, isTupU, el, ha, hx, hy, hg, h2, p1, p2', hl, hgc]
          · have hgc' : ¬ ((Nat.gcd i j : Nat) : Int) = 1 := by omega
            simp [f_shows_near, b_shows_near, h1, is_tup (u := .tup [.int (i : Int), .int (j : Int)]) rfl, isTupU, el, ha, hx, hy, hg, hgc, hgc']
  | pot k => rw [U.rd] at hv; omega
  | _ => simp [f_shows_near, b_shows_near, h1, is_tup np, isTupU, showsQ]
end
end Pr

end
section
set_option Elab.async false
set_option linter.all false
set_option maxRecDepth 100000
set_option maxHeartbeats 1000000
/-! Fractions of few teeth: the plain law. -/
namespace Pr
open PySem L2 Mi Pv
/-! ### order -/
theorem lessQ_iff {x y : Fq} : lessQ x y = true ↔ x.1 * y.2 < y.1 * x.2 := by unfold lessQ; exact decide_eq_true_iff
def leQ (x y : Fq) : Prop := x.1 * y.2 ≤ y.1 * x.2
theorem not_less {x y : Fq} : lessQ x y = false ↔ leQ y x := by
  rw [← Bool.not_eq_true, lessQ_iff]
  unfold leQ
  omega
theorem leQ.trans {x y z : Fq} (hy : 0 < y.2) (h1 : leQ x y) (h2 : leQ y z) : leQ x z := by
  unfold leQ at *
  have a : x.1 * y.2 * z.2 ≤ y.1 * x.2 * z.2 := Nat.mul_le_mul_right _ h1
  have b : y.1 * z.2 * x.2 ≤ z.1 * y.2 * x.2 := Nat.mul_le_mul_right _ h2
  have c : y.2 * (x.1 * z.2) ≤ y.2 * (z.1 * x.2) := by
    calc y.2 * (x.1 * z.2) = x.1 * y.2 * z.2 := by rw [← Nat.mul_assoc, Nat.mul_comm y.2 x.1]
      _ ≤ y.1 * x.2 * z.2 := a
      _ = y.1 * z.2 * x.2 := by rw [Nat.mul_assoc, Nat.mul_comm x.2 z.2, ← Nat.mul_assoc]
      _ ≤ z.1 * y.2 * x.2 := b
      _ = y.2 * (z.1 * x.2) := by rw [Nat.mul_comm z.1 y.2, Nat.mul_assoc]
  exact Nat.le_of_mul_le_mul_left c hy
theorem leQ.refl (x : Fq) : leQ x x := Nat.le_refl _
theorem leQ.total (x y : Fq) : leQ x y ∨ leQ y x := Nat.le_total _ _
/-- equal and in their lowest terms: the same -/
theorem same_of {x y : Fq} (hx : Nat.gcd x.1 x.2 = 1) (hy : Nat.gcd y.1 y.2 = 1) (x0 : 0 < x.2) (y0 : 0 < y.2) (h1 : leQ x y) (h2 : leQ y x) : x = y := by
  unfold leQ at *
  have e : x.1 * y.2 = y.1 * x.2 := Nat.le_antisymm h1 h2
  have d1 : x.2 ∣ y.2 := by
    have : x.2 ∣ x.1 * y.2 := ⟨y.1, by rw [e, Nat.mul_comm]⟩
    exact Nat.Coprime.dvd_of_dvd_mul_left (by unfold Nat.Coprime; rw [Nat.gcd_comm]; exact hx) this
  have d2 : y.2 ∣ x.2 := by
    have : y.2 ∣ y.1 * x.2 := ⟨x.1, by rw [← e, Nat.mul_comm]⟩
    exact Nat.Coprime.dvd_of_dvd_mul_left (by unfold Nat.Coprime; rw [Nat.gcd_comm]; exact hy) this
  have e2 : x.2 = y.2 := Nat.dvd_antisymm d1 d2
  rw [e2] at e
  have e1 : x.1 = y.1 := Nat.eq_of_mul_eq_mul_right y0 e
  exact Prod.ext e1 e2
theorem lowest_eq {t l : Nat} (h : 0 < l) : leQ (t, l) (lowest t l) ∧ leQ (lowest t l) (t, l) ∧ Nat.gcd (lowest t l).1 (lowest t l).2 = 1 ∧ 0 < (lowest t l).2 := by
  have g0 : 0 < Nat.gcd t l := Nat.gcd_pos_of_pos_right _ h
  have e1 : t / Nat.gcd t l * Nat.gcd t l = t := Nat.div_mul_cancel (Nat.gcd_dvd_left t l)
  have e2 : l / Nat.gcd t l * Nat.gcd t l = l := Nat.div_mul_cancel (Nat.gcd_dvd_right t l)
  have e3 : t * (l / Nat.gcd t l) = t / Nat.gcd t l * l := by
    calc t * (l / Nat.gcd t l) = (t / Nat.gcd t l * Nat.gcd t l) * (l / Nat.gcd t l) := by rw [e1]
      _ = t / Nat.gcd t l * (l / Nat.gcd t l * Nat.gcd t l) := by rw [Nat.mul_assoc, Nat.mul_comm (Nat.gcd t l)]
      _ = t / Nat.gcd t l * l := by rw [e2]
  refine ⟨?_, ?_, Nat.gcd_div_gcd_div_gcd_of_pos_right h, ?_⟩
  · show t * (l / Nat.gcd t l) ≤ t / Nat.gcd t l * l
    rw [e3]
    exact Nat.le_refl _
  · show t / Nat.gcd t l * l ≤ t * (l / Nat.gcd t l)
    rw [e3]
    exact Nat.le_refl _
  · exact Nat.div_pos (Nat.gcd_le_right _ h) g0
/-! ### the greatest, the least -/
def stepMax (s f : Fq) : Fq := if lessQ s f = true then f else s
def stepMin (s f : Fq) : Fq := if lessQ f s = true then f else s
theorem fold_max : ∀ (l : List Fq) (s : Fq), 0 < s.2 → (∀ f ∈ l, 0 < f.2) → (l.foldl stepMax s = s ∨ l.foldl stepMax s ∈ l) ∧ leQ s (l.foldl stepMax s) ∧ ∀ f ∈ l, leQ f (l.foldl stepMax s)
  | [], s, _, _ => ⟨.inl rfl, leQ.refl s, fun _ h => by cases h⟩
  | f :: l, s, hs, hl => by
    have hf := hl f List.mem_cons_self
    have h2 : 0 < (stepMax s f).2 := by unfold stepMax; split <;> assumption
    obtain ⟨a, b, c⟩ := fold_max l (stepMax s f) h2 fun g hg => hl g (List.mem_cons_of_mem _ hg)
    rw [List.foldl_cons]
    have l1 : leQ s (stepMax s f) ∧ leQ f (stepMax s f) := by
      unfold stepMax
      split
      · rename_i q
        have := lessQ_iff.mp q
        exact ⟨Nat.le_of_lt this, leQ.refl f⟩
      · rename_i q
        exact ⟨leQ.refl s, not_less.mp (by simpa using q)⟩
    refine ⟨?_, l1.1.trans h2 b, fun g hg => ?_⟩
    · rcases a with a | a
      · rw [a]
        unfold stepMax
        split
        · exact .inr List.mem_cons_self
        · exact .inl rfl
      · exact .inr (List.mem_cons_of_mem _ a)
    · rcases List.mem_cons.mp hg with rfl | hg
      · exact l1.2.trans h2 b
      · exact c g hg
theorem fold_min : ∀ (l : List Fq) (s : Fq), 0 < s.2 → (∀ f ∈ l, 0 < f.2) → (l.foldl stepMin s = s ∨ l.foldl stepMin s ∈ l) ∧ leQ (l.foldl stepMin s) s ∧ ∀ f ∈ l, leQ (l.foldl stepMin s) f
  | [], s, _, _ => ⟨.inl rfl, leQ.refl s, fun _ h => by cases h⟩
  | f :: l, s, hs, hl => by
    have hf := hl f List.mem_cons_self
    have h2 : 0 < (stepMin s f).2 := by unfold stepMin; split <;> assumption
    obtain ⟨a, b, c⟩ := fold_min l (stepMin s f) h2 fun g hg => hl g (List.mem_cons_of_mem _ hg)
    rw [List.foldl_cons]
    have l1 : leQ (stepMin s f) s ∧ leQ (stepMin s f) f := by
      unfold stepMin
      split
      · rename_i q
        have := lessQ_iff.mp q
        exact ⟨Nat.le_of_lt this, leQ.refl f⟩
      · rename_i q
        exact ⟨leQ.refl s, not_less.mp (by simpa using q)⟩
    refine ⟨?_, b.trans h2 l1.1, fun g hg => ?_⟩
    · rcases a with a | a
      · rw [a]
        unfold stepMin
        split
        · exact .inr List.mem_cons_self
        · exact .inl rfl
      · exact .inr (List.mem_cons_of_mem _ a)
    · rcases List.mem_cons.mp hg with rfl | hg
      · exact b.trans h2 l1.2
      · exact c g hg
/-! ### all fractions of few teeth -/
def everyQ (m : Nat) : List Fq := (List.range m).flatMap fun i => ((List.range (m + 1)).filter fun t => decide (Nat.gcd t (i + 1) = 1)).map fun t => (t, i + 1)
theorem every_mem {m : Nat} {f : Fq} : f ∈ everyQ m ↔ f.1 ≤ m ∧ 1 ≤ f.2 ∧ f.2 ≤ m ∧ Nat.gcd f.1 f.2 = 1 := by
  unfold everyQ
  rw [List.mem_flatMap]
  constructor
  · rintro ⟨i, hi, h⟩
    obtain ⟨t, ht, rfl⟩ := List.mem_map.mp h
    obtain ⟨h1, h2⟩ := List.mem_filter.mp ht
    have := List.mem_range.mp hi
    have := List.mem_range.mp h1
    exact ⟨by show t ≤ m; omega, by show 1 ≤ i + 1; omega, by show i + 1 ≤ m; omega, by simpa using h2⟩
  · rintro ⟨h1, h2, h3, h4⟩
    obtain ⟨t, l⟩ := f
    simp only at h1 h2 h3 h4
    refine ⟨l - 1, List.mem_range.mpr (by omega), List.mem_map.mpr ⟨t, List.mem_filter.mpr ⟨List.mem_range.mpr (by omega), ?_⟩, ?_⟩⟩
    · have e : l - 1 + 1 = l := by omega
      rw [e]
      simpa using h4
    · have e : l - 1 + 1 = l := by omega
      rw [e]
def underQ (a b m : Nat) : List Fq := (everyQ m).filter fun f => decide (f.1 * b ≤ a * f.2)
def overQ (a b m : Nat) : List Fq := (everyQ m).filter fun f => decide (a * f.2 ≤ f.1 * b)
theorem under_mem {a b m : Nat} {f : Fq} : f ∈ underQ a b m ↔ f ∈ everyQ m ∧ leQ f (a, b) := by
  unfold underQ leQ
  rw [List.mem_filter, decide_eq_true_iff]
theorem over_mem {a b m : Nat} {f : Fq} : f ∈ overQ a b m ↔ f ∈ everyQ m ∧ leQ (a, b) f := by
  unfold overQ leQ
  rw [List.mem_filter, decide_eq_true_iff]
/-- what the greatest below is -/
structure IsBelow (a b m : Nat) (p : Fq) : Prop where
  mem : p ∈ everyQ m
  le : leQ p (a, b)
  top : ∀ f ∈ everyQ m, leQ f (a, b) → leQ f p
structure IsAbove (a b m : Nat) (p : Fq) : Prop where
  mem : p ∈ everyQ m
  le : leQ (a, b) p
  top : ∀ f ∈ everyQ m, leQ (a, b) f → leQ p f
theorem IsBelow.uniq {a b m : Nat} {p q : Fq} (hp : IsBelow a b m p) (hq : IsBelow a b m q) : p = q := by
  obtain ⟨_, a2, _, a4⟩ := every_mem.mp hp.mem
  obtain ⟨_, b2, _, b4⟩ := every_mem.mp hq.mem
  exact same_of a4 b4 a2 b2 (hq.top p hp.mem hp.le) (hp.top q hq.mem hq.le)
theorem IsAbove.uniq {a b m : Nat} {p q : Fq} (hp : IsAbove a b m p) (hq : IsAbove a b m q) : p = q := by
  obtain ⟨_, a2, _, a4⟩ := every_mem.mp hp.mem
  obtain ⟨_, b2, _, b4⟩ := every_mem.mp hq.mem
  exact same_of a4 b4 a2 b2 (hp.top q hq.mem hq.le) (hq.top p hp.mem hp.le)
theorem foldB_eq (a b m : Nat) : foldB a b m = ((List.range m).map (hereB a b m)).foldl stepMax (0, 1) := by
  unfold foldB
  rw [List.foldl_map]
  rfl
section
variable {a b m : Nat} (hb : 0 < b) (hm : 0 < m)
include hb hm
theorem below_is : IsBelow a b m (belowQ a b m) := by
  have hh : ∀ f ∈ (List.range m).map (hereB a b m), 0 < f.2 ∧ f.1 ≤ m ∧ f.2 ≤ m ∧ leQ f (a, b) := fun f hf => by
    obtain ⟨i, hi, rfl⟩ := List.mem_map.mp hf
    have := List.mem_range.mp hi
    refine ⟨by show 0 < i + 1; omega, Nat.min_le_left _ _, by show i + 1 ≤ m; omega, ?_⟩
    show min m (a * (i + 1) / b) * b ≤ a * (i + 1)
    exact Nat.le_trans (Nat.mul_le_mul_right _ (Nat.min_le_right _ _)) (Nat.div_mul_le_self _ _)
  obtain ⟨h1, h2, h3⟩ := fold_max ((List.range m).map (hereB a b m)) (0, 1) (by decide) fun f hf => (hh f hf).1
  rw [← foldB_eq] at h1 h2 h3
  have hr : 0 < (foldB a b m).2 ∧ (foldB a b m).1 ≤ m ∧ (foldB a b m).2 ≤ m ∧ leQ (foldB a b m) (a, b) := by
    rcases h1 with e | e
    · rw [e]
      exact ⟨by decide, Nat.zero_le _, hm, by show 0 * b ≤ a * 1; omega⟩
    · exact hh _ e
  obtain ⟨g1, g2, g3, g4⟩ := lowest_eq (t := (foldB a b m).1) (l := (foldB a b m).2) hr.1
  obtain ⟨l1, l2⟩ := lowest_le (foldB a b m).1 (foldB a b m).2
  refine ⟨every_mem.mpr ⟨Nat.le_trans l1 hr.2.1, g4, Nat.le_trans l2 hr.2.2.1, g3⟩, leQ.trans hr.1 g2 hr.2.2.2, fun f hf hle => ?_⟩
  obtain ⟨f1, f2, f3, f4⟩ := every_mem.mp hf
  have e : hereB a b m (f.2 - 1) = (min m (a * f.2 / b), f.2) := by
    unfold hereB
    have e : f.2 - 1 + 1 = f.2 := by omega
    rw [e]
  have hmem : hereB a b m (f.2 - 1) ∈ (List.range m).map (hereB a b m) := List.mem_map_of_mem (List.mem_range.mpr (by omega))
  have hle1 : leQ f (hereB a b m (f.2 - 1)) := by
    rw [e]
    show f.1 * f.2 ≤ min m (a * f.2 / b) * f.2
    refine Nat.mul_le_mul_right _ (Nat.le_min.mpr ⟨f1, ?_⟩)
    exact (Nat.le_div_iff_mul_le hb).mpr hle
  exact leQ.trans hr.1 (leQ.trans (by rw [e]; exact f2) hle1 (h3 _ hmem)) g1
end
/-- the program's least above: a fold over what is not too great -/
theorem foldA_spec {a b m : Nat} : ∀ (l : List Nat) (s : Option Fq), (∀ f, s = some f → 0 < f.2) →
    (l.foldl (stepA a b m) s = none ↔ s = none ∧ ∀ i ∈ l, ¬ (hereA a b i).1 ≤ m) ∧ ∀ r, l.foldl (stepA a b m) s = some r → 0 < r.2 ∧ (s = some r ∨ ∃ i ∈ l, (hereA a b i).1 ≤ m ∧ r = hereA a b i) ∧ (∀ f, s = some f → leQ r f) ∧ ∀ i ∈ l, (hereA a b i).1 ≤ m → leQ r (hereA a b i)
  | [], s, hs => ⟨⟨fun h => ⟨h, fun _ h => by cases h⟩, fun h => h.1⟩, fun r h => ⟨hs r h, .inl h, fun f hf => by rw [show s = some r from h] at hf; cases hf; exact leQ.refl _, fun _ h => by cases h⟩⟩
  | i :: l, s, hs => by
    have h2 : ∀ f, stepA a b m s i = some f → 0 < f.2 := fun f hf => by
      unfold stepA at hf
      split at hf
      · cases hf; show 0 < i + 1; omega
      · exact hs f hf
    obtain ⟨c1, c2⟩ := foldA_spec l (stepA a b m s i) h2
    rw [List.foldl_cons]
    constructor
    · rw [c1]
      constructor
      · rintro ⟨e, h⟩
        unfold stepA at e
        split at e
        · cases e
        · rename_i g
          subst e
          refine ⟨rfl, fun j hj => ?_⟩
          rcases List.mem_cons.mp hj with rfl | hj
          · exact fun z => g ⟨z, .inl rfl⟩
          · exact h j hj
      · rintro ⟨rfl, h⟩
        refine ⟨?_, fun j hj => h j (List.mem_cons_of_mem _ hj)⟩
        unfold stepA
        rw [if_neg fun z => h i List.mem_cons_self z.1]
    · intro r hr
      obtain ⟨d1, d2, d3, d4⟩ := c2 r hr
      refine ⟨d1, ?_, fun f hf => ?_, fun j hj hjm => ?_⟩
      · rcases d2 with e | ⟨j, hj, h⟩
        · unfold stepA at e
          split at e
          · rename_i g
            cases e
            exact .inr ⟨i, List.mem_cons_self, g.1, rfl⟩
          · exact .inl e
        · exact .inr ⟨j, List.mem_cons_of_mem _ hj, h⟩
      · subst hf
        by_cases g : (hereA a b i).1 ≤ m ∧ (some f = none ∨ ∃ x, some f = some x ∧ lessQ (hereA a b i) x = true)
        · have e : stepA a b m (some f) i = some (hereA a b i) := by unfold stepA; rw [if_pos g]
          have h5 := d3 _ e
          rcases g.2 with z | ⟨x, z, q⟩
          · cases z
          · cases z
            exact leQ.trans (by show 0 < i + 1; omega) h5 (Nat.le_of_lt (lessQ_iff.mp q))
        · have e : stepA a b m (some f) i = some f := by unfold stepA; rw [if_neg g]
          exact d3 _ e
      · rcases List.mem_cons.mp hj with rfl | hj
        · by_cases g : s = none ∨ ∃ x, s = some x ∧ lessQ (hereA a b j) x = true
          · have e : stepA a b m s j = some (hereA a b j) := by unfold stepA; rw [if_pos ⟨hjm, g⟩]
            exact d3 _ e
          · have e : stepA a b m s j = s := by unfold stepA; rw [if_neg fun z => g z.2]
            cases s with
            | none => exact absurd (.inl rfl) g
            | some f =>
              have q : lessQ (hereA a b j) f = false := by
                cases q : lessQ (hereA a b j) f with
                | false => rfl
                | true => exact absurd (.inr ⟨f, rfl, q⟩) g
              exact leQ.trans (hs f rfl) (d3 f e) (not_less.mp q)
        · exact d4 j hj hjm
section
variable {a b m : Nat} (hb : 0 < b) (hm : 0 < m)
include hb
theorem ceil_le {t l : Nat} (h : a * l ≤ t * b) : (a * l + b - 1) / b ≤ t := by
  refine Nat.le_of_lt_succ ((Nat.div_lt_iff_lt_mul hb).mpr ?_)
  rw [Nat.succ_mul]
  omega
theorem ceil_ge (l : Nat) : a * l ≤ (a * l + b - 1) / b * b := by
  have h := Nat.div_add_mod (a * l + b - 1) b
  have h2 := Nat.mod_lt (a * l + b - 1) hb
  rw [Nat.mul_comm] at h
  omega
theorem above_none : aboveQ a b m = none ↔ overQ a b m = [] := by
  have c := (foldA_spec (a := a) (b := b) (m := m) (List.range m) none fun _ h => by cases h).1
  have e : aboveQ a b m = none ↔ foldA a b m = none := by
    unfold aboveQ
    cases foldA a b m <;> simp
  rw [e]
  show (List.range m).foldl (stepA a b m) none = none ↔ _
  rw [c]
  constructor
  · rintro ⟨_, h⟩
    refine List.eq_nil_iff_forall_not_mem.mpr fun f hf => ?_
    obtain ⟨h1, h2⟩ := over_mem.mp hf
    obtain ⟨f1, f2, f3, f4⟩ := every_mem.mp h1
    refine h (f.2 - 1) (List.mem_range.mpr (by omega)) ?_
    show (a * (f.2 - 1 + 1) + b - 1) / b ≤ m
    have e : f.2 - 1 + 1 = f.2 := by omega
    rw [e]
    exact Nat.le_trans (ceil_le hb h2) f1
  · intro h
    refine ⟨rfl, fun i hi z => ?_⟩
    have hi := List.mem_range.mp hi
    have h0 : 0 < (hereA a b i).2 := by show 0 < i + 1; omega
    obtain ⟨g1, g2, g3, g4⟩ := lowest_eq (t := (hereA a b i).1) (l := (hereA a b i).2) h0
    obtain ⟨l1, l2⟩ := lowest_le (hereA a b i).1 (hereA a b i).2
    have hmem : lowest (hereA a b i).1 (hereA a b i).2 ∈ overQ a b m := by
      refine over_mem.mpr ⟨every_mem.mpr ⟨Nat.le_trans l1 z, g4, Nat.le_trans l2 (by show i + 1 ≤ m; omega), g3⟩, leQ.trans h0 ?_ g1⟩
      exact ceil_ge hb (i + 1)
    rw [h] at hmem
    cases hmem
theorem above_is {p : Fq} (h : aboveQ a b m = some p) : IsAbove a b m p := by
  unfold aboveQ at h
  obtain ⟨r, e, rfl⟩ := Option.map_eq_some_iff.mp h
  obtain ⟨d1, d2, _, d4⟩ := (foldA_spec (a := a) (b := b) (m := m) (List.range m) none fun _ h => by cases h).2 r e
  rcases d2 with z | ⟨i, hi, him, rfl⟩
  · cases z
  · have hi := List.mem_range.mp hi
    obtain ⟨g1, g2, g3, g4⟩ := lowest_eq (t := (hereA a b i).1) (l := (hereA a b i).2) d1
    obtain ⟨l1, l2⟩ := lowest_le (hereA a b i).1 (hereA a b i).2
    refine ⟨every_mem.mpr ⟨Nat.le_trans l1 him, g4, Nat.le_trans l2 (by show i + 1 ≤ m; omega), g3⟩, leQ.trans d1 (ceil_ge hb (i + 1)) g1, fun f hf hle => ?_⟩
    obtain ⟨f1, f2, f3, f4⟩ := every_mem.mp hf
    have e2 : f.2 - 1 + 1 = f.2 := by omega
    have c1 : (hereA a b (f.2 - 1)).1 ≤ f.1 := by
      show (a * (f.2 - 1 + 1) + b - 1) / b ≤ f.1
      rw [e2]
      exact ceil_le hb hle
    have h5 := d4 (f.2 - 1) (List.mem_range.mpr (by omega)) (Nat.le_trans c1 f1)
    have h6 : leQ (hereA a b (f.2 - 1)) f := by
      show (hereA a b (f.2 - 1)).1 * f.2 ≤ f.1 * (f.2 - 1 + 1)
      rw [e2]
      exact Nat.mul_le_mul_right _ c1
    exact leQ.trans d1 g2 (leQ.trans (by show 0 < f.2 - 1 + 1; omega) h5 h6)
end
end Pr

end
section
set_option Elab.async false
set_option linter.all false
set_option maxRecDepth 100000
set_option maxHeartbeats 1000000
/-! Neighbours are one apart; the nearest. -/
namespace Pr
open PySem L2 Mi Pv
/-! ### one apart -/
/-- a partner on the right that cannot be made greater -/
theorem partner {m p1 p2 : Nat} (h2 : 0 < p2) : ∀ (k x y : Nat), m - y ≤ k → p2 * x = p1 * y + 1 → x ≤ m → y ≤ m → ∃ x y, p2 * x = p1 * y + 1 ∧ x ≤ m ∧ y ≤ m ∧ (m < x + p1 ∨ m < y + p2)
  | 0, x, y, hk, e, hx, hy => ⟨x, y, e, hx, hy, .inr (by omega)⟩
  | k + 1, x, y, hk, e, hx, hy => by
    by_cases h : m < x + p1 ∨ m < y + p2
    · exact ⟨x, y, e, hx, hy, h⟩
    · have h : x + p1 ≤ m ∧ y + p2 ≤ m := by omega
      refine partner h2 k (x + p1) (y + p2) (by omega) ?_ h.1 h.2
      rw [Nat.mul_add, Nat.mul_add, e, Nat.mul_comm p1 p2]
      omega
theorem start {p1 p2 : Nat} (h2 : 0 < p2) (hg : Nat.gcd p1 p2 = 1) : ∃ x y, p2 * x = p1 * y + 1 ∧ y < p2 ∧ (x ≤ p1 ∨ x ≤ 1) := by
  -- y with p1 * y = -1 of p2
  have key : ∃ y, y < p2 ∧ (p1 * y + 1) % p2 = 0 := by
    rcases Nat.eq_or_lt_of_le (show 1 ≤ p2 from h2) with e | h3
    · exact ⟨0, by omega, by rw [← e]; exact Nat.mod_one _⟩
    · -- multiples of p1 run through all remainders
      have bez : ∀ a b : Nat, ∃ x y : Int, (a : Int) * x + b * y = (Nat.gcd a b : Nat) := by
        intro a b
        induction a, b using Nat.gcd.induction with
        | H0 n => exact ⟨0, 1, by simp⟩
        | H1 m n hm ih =>
          obtain ⟨x, y, h⟩ := ih
          refine ⟨y - (n / m : Nat) * x, x, ?_⟩
          rw [Nat.gcd_rec m n, ← h]
          have e : ((n % m : Nat) : Int) = (n : Int) - (m : Int) * ((n / m : Nat) : Int) := by
            have := Nat.div_add_mod n m
            have h2 : ((m * (n / m) + n % m : Nat) : Int) = (n : Int) := by rw [this]
            rw [Int.natCast_add, Int.natCast_mul] at h2
            omega
          rw [e, Int.mul_sub, Int.sub_mul, Int.mul_assoc]
          omega
      obtain ⟨u, v, h⟩ := bez p1 p2
      rw [hg] at h
      have n0 : 0 ≤ (-u) % (p2 : Int) := Int.emod_nonneg _ (by omega)
      have n1 : (-u) % (p2 : Int) < p2 := Int.emod_lt_of_pos _ (by omega)
      obtain ⟨y, hy⟩ := Int.eq_ofNat_of_zero_le n0
      refine ⟨y, by omega, ?_⟩
      have e1 : -u = (p2 : Int) * (-u / p2) + y := by rw [← hy]; exact (Int.mul_ediv_add_emod _ _).symm
      have e2 : (((p1 * y + 1 : Nat)) : Int) = (p2 : Int) * (v - p1 * (-u / p2)) := by
        rw [Int.natCast_add, Int.natCast_mul]
        have e3 : (y : Int) = -u - (p2 : Int) * (-u / p2) := by omega
        rw [e3, Int.mul_sub, Int.mul_sub]
        have e4 : (p1 : Int) * -u = -((p1 : Int) * u) := Int.mul_neg _ _
        have e5 : (p1 : Int) * ((p2 : Int) * (-u / p2)) = (p2 : Int) * ((p1 : Int) * (-u / p2)) := by rw [← Int.mul_assoc, Int.mul_comm (p1 : Int), Int.mul_assoc]
        rw [e4, e5]
        have : ((1 : Nat) : Int) = 1 := rfl
        omega
      have e6 : (((p1 * y + 1) % p2 : Nat) : Int) = 0 := by
        rw [Int.natCast_emod, e2]
        exact Int.mul_emod_right _ _
      omega
  obtain ⟨y, hy, e⟩ := key
  have hd := Nat.div_add_mod (p1 * y + 1) p2
  rw [e, Nat.add_zero] at hd
  refine ⟨(p1 * y + 1) / p2, y, hd, hy, ?_⟩
  generalize (p1 * y + 1) / p2 = x at hd
  rcases Nat.eq_zero_or_pos p1 with rfl | h1
  · right
    have : p2 * x ≤ p2 * 1 := by
      have : 0 * y = 0 := Nat.zero_mul y
      omega
    exact Nat.le_of_mul_le_mul_left this h2
  · left
    have h3 : p1 * y ≤ p1 * (p2 - 1) := Nat.mul_le_mul_left _ (by omega)
    have h4 : p1 * (p2 - 1) = p1 * p2 - p1 := by rw [Nat.mul_sub, Nat.mul_one]
    have h5 : p1 * 1 ≤ p1 * p2 := Nat.mul_le_mul_left _ h2
    have h6 : p2 * x ≤ p2 * p1 := by
      rw [hd, Nat.mul_comm p2 p1]
      omega
    exact Nat.le_of_mul_le_mul_left h6 h2
theorem farey {m : Nat} {p q : Fq} (hp : p ∈ everyQ m) (hq : q ∈ everyQ m) (hlt : p.1 * q.2 < q.1 * p.2) (hno : ∀ f ∈ everyQ m, p.1 * f.2 < f.1 * p.2 → leQ q f) : q.1 * p.2 = p.1 * q.2 + 1 := by
  obtain ⟨a1, a2, a3, a4⟩ := every_mem.mp hp
  obtain ⟨b1, b2, b3, b4⟩ := every_mem.mp hq
  obtain ⟨x0, y0, e0, hy0, hx0⟩ := start (p1 := p.1) (p2 := p.2) a2 a4
  obtain ⟨x, y, e, hx, hy, hmax⟩ := partner (m := m) (p1 := p.1) (p2 := p.2) a2 m x0 y0 (by omega) e0 (by omega) (by omega)
  have hx1 : 0 < x := by
    rcases Nat.eq_zero_or_pos x with rfl | h
    · rw [Nat.mul_zero] at e; omega
    · exact h
  have hq1 : 0 < q.1 := by
    rcases Nat.eq_zero_or_pos q.1 with z | h
    · rw [z, Nat.zero_mul] at hlt; omega
    · exact h
  -- there is a lower number
  have hy1 : 0 < y := by
    rcases Nat.eq_zero_or_pos y with rfl | h
    · exfalso
      rw [Nat.mul_zero, Nat.zero_add] at e
      have ep : p.2 = 1 := Nat.eq_one_of_mul_eq_one_right e
      have ex : x = 1 := Nat.eq_one_of_mul_eq_one_left e
      rw [ep] at hmax hlt
      rw [Nat.mul_one] at hlt
      have h3 : p.1 * 1 ≤ p.1 * q.2 := Nat.mul_le_mul_left _ b2
      omega
    · exact h
  have hg : Nat.gcd x y = 1 := by
    have d1 : Nat.gcd x y ∣ p.2 * x := Nat.dvd_trans (Nat.gcd_dvd_left x y) (Nat.dvd_mul_left _ _)
    have d2 : Nat.gcd x y ∣ p.1 * y := Nat.dvd_trans (Nat.gcd_dvd_right x y) (Nat.dvd_mul_left _ _)
    rw [e] at d1
    exact Nat.dvd_one.mp ((Nat.dvd_add_right d2).mp d1)
  have hf : (x, y) ∈ everyQ m := every_mem.mpr ⟨hx, hy1, hy, hg⟩
  have hle : q.1 * y ≤ x * q.2 := hno (x, y) hf (by show p.1 * y < x * p.2; rw [Nat.mul_comm x]; omega)
  -- q = k1 (x, y) + k2 p
  obtain ⟨k1, hk1⟩ : ∃ k1, q.1 * p.2 = p.1 * q.2 + k1 := ⟨q.1 * p.2 - p.1 * q.2, by omega⟩
  obtain ⟨k2, hk2⟩ : ∃ k2, x * q.2 = q.1 * y + k2 := ⟨x * q.2 - q.1 * y, by omega⟩
  have k1p : 1 ≤ k1 := by omega
  have E : ((p.2 : Int) * x = p.1 * y + 1) ∧ ((q.1 : Int) * p.2 = p.1 * q.2 + k1) ∧ ((x : Int) * q.2 = q.1 * y + k2) := by
    refine ⟨?_, ?_, ?_⟩
    · have := congrArg (fun n : Nat => (n : Int)) e; simpa using this
    · have := congrArg (fun n : Nat => (n : Int)) hk1; simpa using this
    · have := congrArg (fun n : Nat => (n : Int)) hk2; simpa using this
  obtain ⟨E1, E2, E3⟩ := E
  have c1 : (q.1 : Int) = x * k1 + p.1 * k2 := by
    have t1 : (x : Int) * k1 = x * (q.1 * p.2) - x * (p.1 * q.2) := by rw [← Int.mul_sub]; congr 1; omega
    have t2 : (p.1 : Int) * k2 = p.1 * (x * q.2) - p.1 * (q.1 * y) := by rw [← Int.mul_sub]; congr 1; omega
    have t3 : (x : Int) * (p.1 * q.2) = p.1 * (x * q.2) := by rw [← Int.mul_assoc, Int.mul_comm (x : Int), Int.mul_assoc]
    have t4 : (x : Int) * (q.1 * p.2) = q.1 * (p.2 * x) := by rw [← Int.mul_assoc, Int.mul_comm (x : Int), Int.mul_assoc, Int.mul_comm (x : Int)]
    have t5 : (p.1 : Int) * (q.1 * y) = q.1 * (p.1 * y) := by rw [← Int.mul_assoc, Int.mul_comm (p.1 : Int), Int.mul_assoc]
    rw [t1, t2, t3, t4, t5, E1, Int.mul_add, Int.mul_one]
    omega
  have c2 : (q.2 : Int) = y * k1 + p.2 * k2 := by
    have t1 : (y : Int) * k1 = y * (q.1 * p.2) - y * (p.1 * q.2) := by rw [← Int.mul_sub]; congr 1; omega
    have t2 : (p.2 : Int) * k2 = p.2 * (x * q.2) - p.2 * (q.1 * y) := by rw [← Int.mul_sub]; congr 1; omega
    have t3 : (y : Int) * (q.1 * p.2) = p.2 * (q.1 * y) := by rw [← Int.mul_assoc, Int.mul_comm (y : Int), Int.mul_comm _ (p.2 : Int)]
    have t4 : (y : Int) * (p.1 * q.2) = q.2 * (p.1 * y) := by rw [← Int.mul_assoc, Int.mul_comm (y : Int), Int.mul_comm _ (q.2 : Int)]
    have t5 : (p.2 : Int) * (x * q.2) = q.2 * (p.2 * x) := by rw [← Int.mul_assoc, Int.mul_comm _ (q.2 : Int)]
    rw [t1, t2, t3, t4, t5, E1, Int.mul_add, Int.mul_one]
    omega
  have d1 : q.1 = x * k1 + p.1 * k2 := by
    have : ((q.1 : Nat) : Int) = ((x * k1 + p.1 * k2 : Nat) : Int) := by rw [c1]; simp
    exact Int.ofNat.inj this
  have d2 : q.2 = y * k1 + p.2 * k2 := by
    have : ((q.2 : Nat) : Int) = ((y * k1 + p.2 * k2 : Nat) : Int) := by rw [c2]; simp
    exact Int.ofNat.inj this
  rcases Nat.eq_zero_or_pos k2 with z | hk
  · -- q is the partner
    have e1 : x * q.2 = q.1 * y := by omega
    have := same_of (x := q) (y := (x, y)) b4 hg b2 hy1 (by show q.1 * y ≤ x * q.2; omega) (by show x * q.2 ≤ q.1 * y; omega)
    rw [this]
    show x * p.2 = p.1 * y + 1
    rw [Nat.mul_comm]
    exact e
  · exfalso
    have f1 : x * 1 ≤ x * k1 := Nat.mul_le_mul_left _ k1p
    have f2 : p.1 * 1 ≤ p.1 * k2 := Nat.mul_le_mul_left _ hk
    have f3 : y * 1 ≤ y * k1 := Nat.mul_le_mul_left _ k1p
    have f4 : p.2 * 1 ≤ p.2 * k2 := Nat.mul_le_mul_left _ hk
    omega
/-- below and above of one ratio -/
theorem one_apart {a b m : Nat} {p q : Fq} (hb : 0 < b) (hp : IsBelow a b m p) (hq : IsAbove a b m q) (hne : p ≠ q) : q.1 * p.2 = p.1 * q.2 + 1 := by
  obtain ⟨a1, a2, a3, a4⟩ := every_mem.mp hp.mem
  obtain ⟨b1, b2, b3, b4⟩ := every_mem.mp hq.mem
  have hle : leQ p q := leQ.trans hb hp.le hq.le
  have hlt : p.1 * q.2 < q.1 * p.2 := by
    rcases Nat.lt_or_ge (p.1 * q.2) (q.1 * p.2) with h | h
    · exact h
    · exact absurd (same_of a4 b4 a2 b2 hle h) hne
  refine farey hp.mem hq.mem hlt fun f hf hlt => ?_
  rcases leQ.total f (a, b) with h | h
  · have := hp.top f hf h
    unfold leQ at this
    omega
  · exact hq.top f hf h
end Pr

end
section
set_option Elab.async false
set_option linter.all false
set_option maxRecDepth 100000
set_option maxHeartbeats 1000000
/-! The nearest. -/
namespace Pr
open PySem L2 Mi Pv
def leD (a b : Nat) (f g : Fq) : Prop := leQ (apartQ a b f) (apartQ a b g)
theorem absN_sub {x y : Nat} (h : x ≤ y) : absN x y = y - x ∧ absN y x = y - x := by
  unfold absN
  constructor <;> (split <;> omega)
theorem near_below {a b : Nat} {p f : Fq} (h1 : leQ f p) (h2 : leQ p (a, b)) (h3 : leQ f (a, b)) : leD a b p f := by
  unfold leD leQ apartQ at *
  simp only at *
  rw [(absN_sub h2).1, (absN_sub h3).1]
  have k : (a * p.2 - p.1 * b) * f.2 ≤ (a * f.2 - f.1 * b) * p.2 := by
    rw [Nat.sub_mul, Nat.sub_mul]
    have e1 : a * p.2 * f.2 = a * f.2 * p.2 := by rw [Nat.mul_assoc, Nat.mul_comm p.2, ← Nat.mul_assoc]
    have e2 : f.1 * b * p.2 ≤ p.1 * b * f.2 := by
      calc f.1 * b * p.2 = f.1 * p.2 * b := by rw [Nat.mul_assoc, Nat.mul_comm b, ← Nat.mul_assoc]
        _ ≤ p.1 * f.2 * b := Nat.mul_le_mul_right _ h1
        _ = p.1 * b * f.2 := by rw [Nat.mul_assoc, Nat.mul_comm f.2, ← Nat.mul_assoc]
    omega
  calc (a * p.2 - p.1 * b) * (f.2 * b) = (a * p.2 - p.1 * b) * f.2 * b := by rw [Nat.mul_assoc]
    _ ≤ (a * f.2 - f.1 * b) * p.2 * b := Nat.mul_le_mul_right _ k
    _ = (a * f.2 - f.1 * b) * (p.2 * b) := by rw [Nat.mul_assoc]
theorem near_above {a b : Nat} {q f : Fq} (h1 : leQ q f) (h2 : leQ (a, b) q) (h3 : leQ (a, b) f) : leD a b q f := by
  unfold leD leQ apartQ at *
  simp only at *
  rw [(absN_sub h2).2, (absN_sub h3).2]
  have k : (q.1 * b - a * q.2) * f.2 ≤ (f.1 * b - a * f.2) * q.2 := by
    rw [Nat.sub_mul, Nat.sub_mul]
    have e1 : a * q.2 * f.2 = a * f.2 * q.2 := by rw [Nat.mul_assoc, Nat.mul_comm q.2, ← Nat.mul_assoc]
    have e2 : q.1 * b * f.2 ≤ f.1 * b * q.2 := by
      calc q.1 * b * f.2 = q.1 * f.2 * b := by rw [Nat.mul_assoc, Nat.mul_comm b, ← Nat.mul_assoc]
        _ ≤ f.1 * q.2 * b := Nat.mul_le_mul_right _ h1
        _ = f.1 * b * q.2 := by rw [Nat.mul_assoc, Nat.mul_comm q.2, ← Nat.mul_assoc]
    omega
  calc (q.1 * b - a * q.2) * (f.2 * b) = (q.1 * b - a * q.2) * f.2 * b := by rw [Nat.mul_assoc]
    _ ≤ (f.1 * b - a * f.2) * q.2 * b := Nat.mul_le_mul_right _ k
    _ = (f.1 * b - a * f.2) * (q.2 * b) := by rw [Nat.mul_assoc]
section
variable {a b : Nat} (hb : 0 < b)
include hb
theorem leD.trans {x y z : Fq} (hy : 0 < y.2) (h1 : leD a b x y) (h2 : leD a b y z) : leD a b x z := leQ.trans (by show 0 < y.2 * b; exact Nat.mul_pos hy hb) h1 h2
theorem fold_near : ∀ (l : List Fq) (s : Fq), 0 < s.2 → (∀ f ∈ l, 0 < f.2) → (l.foldl (stepN a b) s = s ∨ l.foldl (stepN a b) s ∈ l) ∧ leD a b (l.foldl (stepN a b) s) s ∧ ∀ f ∈ l, leD a b (l.foldl (stepN a b) s) f
  | [], s, _, _ => ⟨.inl rfl, leQ.refl _, fun _ h => by cases h⟩
  | f :: l, s, hs, hl => by
    have hf := hl f List.mem_cons_self
    have h2 : 0 < (stepN a b s f).2 := by unfold stepN; split <;> assumption
    obtain ⟨c1, c2, c3⟩ := fold_near l (stepN a b s f) h2 fun g hg => hl g (List.mem_cons_of_mem _ hg)
    rw [List.foldl_cons]
    have l1 : leD a b (stepN a b s f) s ∧ leD a b (stepN a b s f) f := by
      unfold stepN
      split
      · rename_i q
        have := lessQ_iff.mp q
        exact ⟨Nat.le_of_lt this, leQ.refl _⟩
      · rename_i q
        exact ⟨leQ.refl _, not_less.mp (by simpa using q)⟩
    refine ⟨?_, c2.trans hb h2 l1.1, fun g hg => ?_⟩
    · rcases c1 with e | e
      · rw [e]
        unfold stepN
        split
        · exact .inr List.mem_cons_self
        · exact .inl rfl
      · exact .inr (List.mem_cons_of_mem _ e)
    · rcases List.mem_cons.mp hg with rfl | hg
      · exact c2.trans hb h2 l1.2
      · exact c3 g hg
theorem nearest_spec {l : List Fq} {r : Fq} (hl : ∀ f ∈ l, 0 < f.2) (h : nearest a b l = some r) : r ∈ l ∧ ∀ f ∈ l, leD a b r f := by
  cases l with
  | nil => cases h
  | cons f l =>
    have h := Option.some.inj h
    obtain ⟨c1, c2, c3⟩ := fold_near hb (f :: l) f (hl f List.mem_cons_self) hl
    rw [h] at c1 c2 c3
    refine ⟨?_, c3⟩
    rcases c1 with e | e
    · rw [e]; exact List.mem_cons_self
    · exact e
end
theorem nearest_some {a b : Nat} {l : List Fq} (h : l ≠ []) : ∃ r, nearest a b l = some r := by
  cases l with
  | nil => exact absurd rfl h
  | cons f l => exact ⟨_, rfl⟩
theorem sides_mem {a b m : Nat} {f : Fq} : f ∈ sides a b m ↔ (f = belowQ a b m ∨ aboveQ a b m = some f) ∧ 0 < f.1 := by
  unfold sides
  rw [List.mem_filter, List.mem_filterMap, decide_eq_true_iff]
  constructor
  · rintro ⟨⟨o, ho, e⟩, h⟩
    have e : o = some f := e
    subst e
    simp only [List.mem_cons, List.not_mem_nil, or_false] at ho
    refine ⟨ho.imp (fun z => Option.some.inj z) Eq.symm, h⟩
  · rintro ⟨e, h⟩
    refine ⟨⟨some f, ?_, rfl⟩, h⟩
    simp only [List.mem_cons, List.not_mem_nil, or_false]
    exact e.imp (fun z => congrArg some z) Eq.symm
/-- what near_ratio tells -/
structure IsNear (a b m : Nat) (r : Fq) : Prop where
  mem : r ∈ everyQ m
  pos : 0 < r.1
  side : r = belowQ a b m ∨ aboveQ a b m = some r
  best : ∀ f ∈ everyQ m, 0 < f.1 → leD a b r f
theorem near_is {a b m : Nat} (h : Rt a b m) : ∃ r, nearest a b (sides a b m) = some r ∧ IsNear a b m r := by
  have hb : 0 < b := h.b1
  have hm : 0 < m := h.m1
  have hB := below_is (a := a) hb hm
  have low : ∀ f ∈ everyQ m, 0 < f.2 := fun f hf => (every_mem.mp hf).2.1
  have hs : ∀ f ∈ sides a b m, f ∈ everyQ m ∧ 0 < f.1 := fun f hf => by
    obtain ⟨h1, h2⟩ := sides_mem.mp hf
    rcases h1 with rfl | h1
    · exact ⟨hB.mem, h2⟩
    · exact ⟨(above_is hb h1).mem, h2⟩
  have apos : ∀ q, aboveQ a b m = some q → 0 < q.1 := fun q hq => by
    have hA := above_is hb hq
    have h1 : a * q.2 ≤ q.1 * b := hA.le
    have h2 : 1 * 1 ≤ a * q.2 := Nat.mul_le_mul h.a1 (low q hA.mem)
    rcases Nat.eq_zero_or_pos q.1 with z | z
    · rw [z, Nat.zero_mul] at h1
      omega
    · exact z
  -- for each there is a side that is as near
  have cov : ∀ f ∈ everyQ m, 0 < f.1 → ∃ g ∈ sides a b m, leD a b g f := fun f hf hp => by
    rcases leQ.total f (a, b) with hle | hle
    · have h1 := hB.top f hf hle
      refine ⟨belowQ a b m, sides_mem.mpr ⟨.inl rfl, ?_⟩, near_below h1 hB.le hle⟩
      rcases Nat.eq_zero_or_pos (belowQ a b m).1 with z | z
      · exfalso
        have h1 : f.1 * (belowQ a b m).2 ≤ (belowQ a b m).1 * f.2 := h1
        rw [z, Nat.zero_mul] at h1
        have h2 : 1 * 1 ≤ f.1 * (belowQ a b m).2 := Nat.mul_le_mul hp (low _ hB.mem)
        omega
      · exact z
    · cases q : aboveQ a b m with
      | none =>
        have := (above_none hb).mp q
        have hmem : f ∈ overQ a b m := over_mem.mpr ⟨hf, hle⟩
        rw [this] at hmem
        cases hmem
      | some g =>
        have hA := above_is hb q
        exact ⟨g, sides_mem.mpr ⟨.inr q, apos g q⟩, near_above (hA.top f hf hle) hA.le hle⟩
  have h1m : ((1, m) : Fq) ∈ everyQ m := every_mem.mpr ⟨hm, hm, Nat.le_refl _, Nat.gcd_one_left m⟩
  have hne : sides a b m ≠ [] := fun z => by
    obtain ⟨g, hg, _⟩ := cov (1, m) h1m (by show 0 < 1; omega)
    rw [z] at hg
    cases hg
  obtain ⟨r, e⟩ := nearest_some (a := a) (b := b) hne
  obtain ⟨r1, r2⟩ := nearest_spec hb (fun f hf => low f (hs f hf).1) e
  refine ⟨r, e, (hs r r1).1, (hs r r1).2, (sides_mem.mp r1).1, fun f hf hp => ?_⟩
  obtain ⟨g, hg, hd⟩ := cov f hf hp
  exact (r2 g hg).trans hb (low g (hs g hg).1) hd
end Pr

end
section
set_option Elab.async false
set_option linter.all false
set_option maxRecDepth 100000
set_option maxHeartbeats 4000000
/-! How the plain data lie in the layer's heap. -/
namespace Mi
open PySem L2
section
variable (K : PySem.W.Frag)
/-- a list that never changes -/
def FzL (H : Hp) (a : Addr) (xs : List V) : Prop := (∃ o, H a = some (.frz o (.lst xs))) ∨ SqL K (fun _ => none) a xs
mutual
def VR (m : List Addr) (H : Hp) : D → V → Prop
  | .non, v => v = .non
  | .bl b, v => v = .bl b
  | .int i, v => v = .int i
  | .str x, v => v = .str x
  | .tup ds, v => ∃ a xs, v = .ref a ∧ SqT K H a xs ∧ VRs m H ds xs
  | .frz ds, v => ∃ a xs, v = .ref a ∧ FzL K H a xs ∧ VRs m H ds xs
  | .ref n, v => ∃ a, v = .ref a ∧ m[n]? = some a
def VRs (m : List Addr) (H : Hp) : List D → List V → Prop
  | [], xs => xs = []
  | d :: ds, xs => ∃ v vs, xs = v :: vs ∧ VR m H d v ∧ VRs m H ds vs
end
def OR (m : List Addr) (H : Hp) (a : Addr) : SO → Prop
  | .lst ds => ∃ xs, H a = some (.lst xs) ∧ VRs K m H ds xs
  | .dct kvs => ∃ ws : List (Key × V), H a = some (.dK ws) ∧ ws.map (·.1) = kvs.map (·.1) ∧ VRs K m H (kvs.map (·.2)) (ws.map (·.2))
structure Rel (m : List Addr) (S : Sto) (H : Hp) : Prop where
  len : m.length = S.length
  inj : ∀ (i j : Nat) (a : Addr), m[i]? = some a → m[j]? = some a → i = j
  obj : ∀ (n : Nat) (a : Addr) (o : SO), m[n]? = some a → S[n]? = some o → OR K m H a o
structure Ex0 (m : List Addr) (H : Hp) (m' : List Addr) (H' : Hp) : Prop where
  pre : ∀ (n : Nat) (a : Addr), m[n]? = some a → m'[n]? = some a
  tup : ∀ a xs, SqT K H a xs → SqT K H' a xs
  fz : ∀ a xs, FzL K H a xs → FzL K H' a xs
structure Ext (m : List Addr) (H : Hp) (m' : List Addr) (H' : Hp) : Prop extends Ex0 K m H m' H' where
  frm : ∀ a o, H a = some o → a ∉ m → H' a = some o ∧ a ∉ m'
/-- the slots -/
structure VO (m : List Addr) (H : Hp) (ρ : Loc) (σ : St) : Prop where
  len : ρ.length = σ.length
  at_ : ∀ (i : Nat) (d : D), ρ[i]? = some (some d) → ∃ v, σ[i]? = some (some v) ∧ VR K m H d v
end
section
variable {K : PySem.W.Frag} {m m' m2 : List Addr} {H H' H2 : Hp} {S S' : Sto}
theorem Ext.refl : Ext K m H m H := ⟨⟨fun _ _ h => h, fun _ _ h => h, fun _ _ h => h⟩, fun _ _ h n => ⟨h, n⟩⟩
theorem Ext.trans (a : Ext K m H m' H') (b : Ext K m' H' m2 H2) : Ext K m H m2 H2 :=
  ⟨⟨fun n x h => b.pre n x (a.pre n x h), fun x xs h => b.tup x xs (a.tup x xs h), fun x xs h => b.fz x xs (a.fz x xs h)⟩, fun x o h n => let ⟨h1, n1⟩ := a.frm x o h n; b.frm x o h1 n1⟩
mutual
theorem VR.mono0 (e : Ex0 K m H m' H') : ∀ (d : D) (v : V), VR K m H d v → VR K m' H' d v
  | .non, _, h => h
  | .bl _, _, h => h
  | .int _, _, h => h
  | .str _, _, h => h
  | .tup ds, v, h => by
    obtain ⟨a, xs, e1, h1, h2⟩ := h
    exact ⟨a, xs, e1, e.tup a xs h1, VRs.mono0 e ds xs h2⟩
  | .frz ds, v, h => by
    obtain ⟨a, xs, e1, h1, h2⟩ := h
    exact ⟨a, xs, e1, e.fz a xs h1, VRs.mono0 e ds xs h2⟩
  | .ref n, v, h => by
    obtain ⟨a, e1, h1⟩ := h
    exact ⟨a, e1, e.pre n a h1⟩
theorem VRs.mono0 (e : Ex0 K m H m' H') : ∀ (ds : List D) (vs : List V), VRs K m H ds vs → VRs K m' H' ds vs
  | [], _, h => h
  | d :: ds, vs, h => by
    obtain ⟨v, ws, e1, h1, h2⟩ := h
    exact ⟨v, ws, e1, VR.mono0 e d v h1, VRs.mono0 e ds ws h2⟩
end
theorem VR.mono (e : Ext K m H m' H') (d : D) (v : V) (h : VR K m H d v) : VR K m' H' d v := VR.mono0 e.toEx0 d v h
theorem VRs.mono (e : Ext K m H m' H') (ds : List D) (vs : List V) (h : VRs K m H ds vs) : VRs K m' H' ds vs := VRs.mono0 e.toEx0 ds vs h
theorem VO.mono {ρ : Loc} {σ : St} (e : Ext K m H m' H') (h : VO K m H ρ σ) : VO K m' H' ρ σ :=
  ⟨h.len, fun i d q => let ⟨v, e1, r⟩ := h.at_ i d q; ⟨v, e1, VR.mono e d v r⟩⟩
theorem VRs.length : ∀ {ds : List D} {vs : List V}, VRs K m H ds vs → vs.length = ds.length
  | [], _, h => by
    have h : _ = [] := h
    rw [h]; rfl
  | d :: ds, vs, h => by
    obtain ⟨v, ws, e1, h1, h2⟩ := h
    rw [e1, List.length_cons, List.length_cons, VRs.length h2]
theorem VRs.nil : VRs K m H [] [] := rfl
theorem VRs.cons {d : D} {v : V} {ds : List D} {vs : List V} (a : VR K m H d v) (b : VRs K m H ds vs) : VRs K m H (d :: ds) (v :: vs) := ⟨v, vs, rfl, a, b⟩
theorem VRs.append : ∀ {ds es : List D} {vs ws : List V}, VRs K m H ds vs → VRs K m H es ws → VRs K m H (ds ++ es) (vs ++ ws)
  | [], _, _, _, h, q => by
    have h : _ = [] := h
    rw [h]; exact q
  | d :: ds, _, _, _, h, q => by
    obtain ⟨v, ws, e1, h1, h2⟩ := h
    rw [e1]
    exact VRs.cons h1 (VRs.append h2 q)
theorem VRs.get : ∀ {ds : List D} {vs : List V} {i : Nat} {d : D}, VRs K m H ds vs → ds[i]? = some d → ∃ v, vs[i]? = some v ∧ VR K m H d v
  | [], _, _, _, _, e => by simp at e
  | x :: ds, _, 0, d, h, e => by
    obtain ⟨v, ws, e1, h1, h2⟩ := h
    rw [e1]
    simp at e
    subst e
    exact ⟨v, rfl, h1⟩
  | x :: ds, _, i + 1, d, h, e => by
    obtain ⟨v, ws, e1, h1, h2⟩ := h
    rw [e1]
    obtain ⟨u, q1, q2⟩ := VRs.get (i := i) h2 (by simpa using e)
    exact ⟨u, by simpa using q1, q2⟩
theorem VRs.set {d : D} {v : V} (r : VR K m H d v) : ∀ {ds : List D} {vs : List V} (i : Nat), VRs K m H ds vs → VRs K m H (ds.set i d) (vs.set i v)
  | [], _, i, h => by
    have h : _ = [] := h
    rw [h]; exact VRs.nil
  | x :: ds, _, 0, h => by
    obtain ⟨u, ws, e1, h1, h2⟩ := h
    rw [e1]; exact VRs.cons r h2
  | x :: ds, _, i + 1, h => by
    obtain ⟨u, ws, e1, h1, h2⟩ := h
    rw [e1]; exact VRs.cons h1 (VRs.set r i h2)
theorem VRs.take : ∀ {ds : List D} {vs : List V} (n : Nat), VRs K m H ds vs → VRs K m H (ds.take n) (vs.take n)
  | _, _, 0, _ => by simp; exact VRs.nil
  | [], _, n + 1, h => by
    have h : _ = [] := h
    rw [h]; exact VRs.nil
  | x :: ds, _, n + 1, h => by
    obtain ⟨u, ws, e1, h1, h2⟩ := h
    rw [e1]; exact VRs.cons h1 (VRs.take n h2)
theorem VRs.drop : ∀ {ds : List D} {vs : List V} (n : Nat), VRs K m H ds vs → VRs K m H (ds.drop n) (vs.drop n)
  | _, _, 0, h => by simpa using h
  | [], _, n + 1, h => by
    have h : _ = [] := h
    rw [h]; exact VRs.nil
  | x :: ds, _, n + 1, h => by
    obtain ⟨u, ws, e1, h1, h2⟩ := h
    rw [e1]; simpa using VRs.drop n h2
theorem VRs.reverse : ∀ {ds : List D} {vs : List V}, VRs K m H ds vs → VRs K m H ds.reverse vs.reverse
  | [], _, h => by
    have h : _ = [] := h
    rw [h]; exact VRs.nil
  | x :: ds, _, h => by
    obtain ⟨u, ws, e1, h1, h2⟩ := h
    rw [e1, List.reverse_cons, List.reverse_cons]
    exact VRs.append (VRs.reverse h2) (VRs.cons h1 VRs.nil)
theorem VRs.eq_nil {ds : List D} {vs : List V} (h : VRs K m H ds vs) : vs = [] ↔ ds = [] := by
  have := h.length
  constructor <;> intro e <;> (subst e; simp at this)
  · exact List.eq_nil_of_length_eq_zero this.symm
  · exact this
theorem cut_rel {ds : List D} {vs : List V} (h : VRs K m H ds vs) (lo hi : Option Int) : VRs K m H (cutD ds lo hi) (cutV vs lo hi) := by
  unfold cutD cutV
  rw [h.length]
  exact (h.drop _).take _
theorem VRs.one {d : D} {vs : List V} (h : VRs K m H [d] vs) : ∃ v, vs = [v] ∧ VR K m H d v := by
  obtain ⟨v, ws, e1, h1, h2⟩ := h
  have h2 : ws = [] := h2
  subst h2
  exact ⟨v, e1, h1⟩
theorem VRs.two {d e : D} {vs : List V} (h : VRs K m H [d, e] vs) : ∃ v w, vs = [v, w] ∧ VR K m H d v ∧ VR K m H e w := by
  obtain ⟨v, ws, e1, h1, h2⟩ := h
  obtain ⟨w, e2, h3⟩ := h2.one
  subst e2
  exact ⟨v, w, e1, h1, h3⟩
theorem VRs.three {d e f : D} {vs : List V} (h : VRs K m H [d, e, f] vs) : ∃ v w u, vs = [v, w, u] ∧ VR K m H d v ∧ VR K m H e w ∧ VR K m H f u := by
  obtain ⟨v, ws, e1, h1, h2⟩ := h
  obtain ⟨w, u, e2, h3, h4⟩ := h2.two
  subst e2
  exact ⟨v, w, u, e1, h1, h3, h4⟩

/-! ### what is tracked -/
theorem Rel.there (r : Rel K m S H) {a : Addr} (h : a ∈ m) : ∃ (n : Nat) (o : SO), m[n]? = some a ∧ S[n]? = some o ∧ OR K m H a o := by
  obtain ⟨n, hn⟩ := List.mem_iff_getElem?.mp h
  have hl : n < S.length := by rw [← r.len]; exact (List.getElem?_eq_some_iff.mp hn).1
  exact ⟨n, S[n], hn, List.getElem?_eq_getElem hl, r.obj n a _ hn (List.getElem?_eq_getElem hl)⟩
theorem OR.some {a : Addr} {o : SO} (h : OR K m H a o) : ∃ u, H a = some u ∧ (∀ xs, u ≠ .tup xs) ∧ ∀ ob w, u ≠ .frz ob w := by
  cases o with
  | lst ds => obtain ⟨xs, e, _⟩ := h; exact ⟨_, e, (fun _ z => nomatch z), (fun _ _ z => nomatch z)⟩
  | dct kvs => obtain ⟨ws, e, _⟩ := h; exact ⟨_, e, (fun _ z => nomatch z), (fun _ _ z => nomatch z)⟩
theorem Rel.fresh (r : Rel K m S H) {p : Addr} (h : H p = none) : p ∉ m := fun hm => by
  obtain ⟨n, o, _, _, q⟩ := r.there hm
  obtain ⟨u, e, _⟩ := q.some
  rw [h] at e; cases e
theorem sqt_upd {p a : Addr} {o : HO} {xs : List V} (hp : ∀ u, H p = some u → (∀ xs, u ≠ .tup xs) ∧ ∀ ob w, u ≠ .frz ob w) (h : SqT K H a xs) : SqT K (upd H p o) a xs := by
  rcases h with (h | ⟨ob, h⟩) | h
  · refine .inl (.inl ?_)
    rw [upd_ne]
    · exact h
    · intro e; subst e; exact (hp _ h).1 _ rfl
  · refine .inl (.inr ⟨ob, ?_⟩)
    rw [upd_ne]
    · exact h
    · intro e; subst e; exact (hp _ h).2 _ _ rfl
  · exact .inr h
theorem Ext.new {p : Addr} {o : HO} (r : Rel K m S H) (hp : H p = none) (ms : List Addr) (hm : ∀ x ∈ ms, x = p) : Ext K m H (m ++ ms) (upd H p o) := by
  have ne : ∀ {a : Addr} {u : HO}, H a = some u → a ≠ p := fun h e => by subst e; rw [hp] at h; cases h
  refine ⟨⟨fun n a h => ?_, fun a xs h => sqt_upd (fun u q => by rw [hp] at q; cases q) h, fun a xs h => ?_⟩, fun a u h n => ⟨by rw [upd_ne (ne h)]; exact h, ?_⟩⟩
  · rw [List.getElem?_append_left (List.getElem?_eq_some_iff.mp h).1]; exact h
  · rcases h with ⟨ob, h⟩ | h
    · exact .inl ⟨ob, by rw [upd_ne (ne h)]; exact h⟩
    · exact .inr h
  · intro hm'
    rcases List.mem_append.mp hm' with z | z
    · exact n z
    · exact ne h (hm a z)
theorem OR.mono0 {a : Addr} {o : SO} (e : Ex0 K m H m' H') (ha : H' a = H a) (h : OR K m H a o) : OR K m' H' a o := by
  cases o with
  | lst ds => obtain ⟨xs, q, r⟩ := h; exact ⟨xs, ha.trans q, VRs.mono0 e _ _ r⟩
  | dct kvs => obtain ⟨ws, q, k, r⟩ := h; exact ⟨ws, ha.trans q, k, VRs.mono0 e _ _ r⟩
theorem OR.mono {a : Addr} {o : SO} (e : Ext K m H m' H') (ha : H' a = H a) (h : OR K m H a o) : OR K m' H' a o := OR.mono0 e.toEx0 ha h
/-- a new object of the store -/
theorem Rel.adopt {p : Addr} {u : HO} {o : SO} (r : Rel K m S H) (np : p ∉ m) (e : Ex0 K m H (m ++ [p]) (upd H p u)) (ho : OR K (m ++ [p]) (upd H p u) p o) : Rel K (m ++ [p]) (S ++ [o]) (upd H p u) := by
  refine ⟨by simp [r.len], fun i j a h1 h2 => ?_, fun n a o' h1 h2 => ?_⟩
  · by_cases hi : i < m.length
    · by_cases hj : j < m.length
      · rw [List.getElem?_append_left hi] at h1
        rw [List.getElem?_append_left hj] at h2
        exact r.inj i j a h1 h2
      · exfalso
        rw [List.getElem?_append_left hi] at h1
        rw [List.getElem?_append_right (by omega)] at h2
        have : a = p := by
          have h3 := List.mem_of_getElem? h2
          simpa using h3
        subst this
        exact np (List.mem_of_getElem? h1)
    · by_cases hj : j < m.length
      · exfalso
        rw [List.getElem?_append_left hj] at h2
        rw [List.getElem?_append_right (by omega)] at h1
        have : a = p := by
          have h3 := List.mem_of_getElem? h1
          simpa using h3
        subst this
        exact np (List.mem_of_getElem? h2)
      · have h3 := (List.getElem?_eq_some_iff.mp h1).1
        have h4 := (List.getElem?_eq_some_iff.mp h2).1
        simp at h3 h4
        omega
  · by_cases hn : n < m.length
    · rw [List.getElem?_append_left hn] at h1
      rw [List.getElem?_append_left (by rw [← r.len]; exact hn)] at h2
      have q := r.obj n a o' h1 h2
      refine OR.mono0 e ?_ q
      exact upd_ne fun z => np (z ▸ List.mem_of_getElem? h1)
    · have h3 := (List.getElem?_eq_some_iff.mp h1).1
      simp at h3
      have hnl : n = m.length := by omega
      subst hnl
      rw [List.getElem?_append_right (Nat.le_refl _)] at h1
      rw [r.len, List.getElem?_append_right (Nat.le_refl _)] at h2
      simp at h1 h2
      subst h1 h2
      exact ho
theorem Rel.alloc {p : Addr} {u : HO} {o : SO} (r : Rel K m S H) (hp : H p = none) (ho : OR K (m ++ [p]) (upd H p u) p o) : Rel K (m ++ [p]) (S ++ [o]) (upd H p u) :=
  r.adopt (r.fresh hp) (Ext.new (o := u) r hp [p] (by simp)).toEx0 ho
theorem ex0_upd {p : Addr} {u w : HO} (h : H p = some w) (h1 : ∀ xs, w ≠ .tup xs) (h2 : ∀ ob x, w ≠ .frz ob x) : Ex0 K m H (m ++ [p]) (upd H p u) := by
  refine ⟨fun n a h => ?_, fun a xs h0 => sqt_upd (fun v q => by rw [h] at q; cases q; exact ⟨h1, h2⟩) h0, fun a xs h0 => ?_⟩
  · rw [List.getElem?_append_left (List.getElem?_eq_some_iff.mp h).1]; exact h
  · rcases h0 with ⟨ob, h0⟩ | h0
    · refine .inl ⟨ob, ?_⟩
      rw [upd_ne]
      · exact h0
      · intro e; subst e; rw [h] at h0; cases h0; exact h2 _ _ rfl
    · exact .inr h0
/-- an object that was laid ahead is the store's from now on -/
theorem Ext.adopt {p : Addr} {o1 w u : HO} {m2 : List Addr} {H2 : Hp} (r : Rel K m S H) (hp : H p = none) (e : Ext K m (upd H p o1) m2 H2) (h : H2 p = some w) (h1 : ∀ xs, w ≠ .tup xs) (h2 : ∀ ob x, w ≠ .frz ob x) : Ext K m H (m2 ++ [p]) (upd H2 p u) := by
  have a := Ext.new (o := o1) r hp [] (by simp)
  rw [List.append_nil] at a
  have b := ex0_upd (K := K) (m := m2) (u := u) h h1 h2
  refine ⟨⟨fun n x q => b.pre n x (e.pre n x (a.pre n x q)), fun x xs q => b.tup x xs (e.tup x xs (a.tup x xs q)), fun x xs q => b.fz x xs (e.fz x xs (a.fz x xs q))⟩, fun x o q n => ?_⟩
  have ne : x ≠ p := fun z => by subst z; rw [hp] at q; cases q
  obtain ⟨q1, n1⟩ := a.frm x o q n
  obtain ⟨q2, n2⟩ := e.frm x o q1 n1
  exact ⟨by rw [upd_ne ne]; exact q2, fun z => (List.mem_append.mp z).elim n2 fun z => ne (by simpa using z)⟩
theorem alloc_get (p : Addr) : (m ++ [p])[m.length]? = some p := by simp
/-- an object of the store changes -/
theorem Ext.set {n : Nat} {a : Addr} {u : HO} (r : Rel K m S H) (hn : m[n]? = some a) : Ext K m H m (upd H a u) := by
  have hm := List.mem_of_getElem? hn
  obtain ⟨k, o, _, _, q⟩ := r.there hm
  obtain ⟨w, hw, h1, h2⟩ := q.some
  refine ⟨⟨fun _ _ h => h, fun b xs h => sqt_upd (fun v q => by rw [hw] at q; cases q; exact ⟨h1, h2⟩) h, fun b xs h => ?_⟩, fun b v h nb => ⟨by rw [upd_ne (show b ≠ a from fun z => nb (by rw [z]; exact hm))]; exact h, nb⟩⟩
  rcases h with ⟨ob, h⟩ | h
  · refine .inl ⟨ob, ?_⟩
    rw [upd_ne]
    · exact h
    · intro e; subst e; rw [hw] at h; cases h; exact h2 _ _ rfl
  · exact .inr h
theorem Rel.set {n : Nat} {a : Addr} {u : HO} {o : SO} (r : Rel K m S H) (hn : m[n]? = some a) (ho : OR K m (upd H a u) a o) : Rel K m (S.set n o) (upd H a u) := by
  have e := Ext.set (u := u) r hn
  refine ⟨by simp [r.len], r.inj, fun k b o' h1 h2 => ?_⟩
  by_cases hk : k = n
  · subst hk
    rw [hn] at h1; cases h1
    have hl : k < S.length := by
      have := (List.getElem?_eq_some_iff.mp h2).1
      simpa using this
    rw [List.getElem?_set_self hl] at h2
    cases h2
    exact ho
  · rw [List.getElem?_set_ne (fun z => hk z.symm)] at h2
    refine OR.mono e (upd_ne fun z => hk (r.inj k n b h1 (z ▸ hn))) (r.obj k b o' h1 h2)
theorem Rel.lst (r : Rel K m S H) {n : Nat} {a : Addr} {ds : List D} (hn : m[n]? = some a) (hs : S[n]? = some (.lst ds)) : ∃ xs, H a = some (.lst xs) ∧ VRs K m H ds xs := r.obj n a _ hn hs
theorem Rel.at_ (r : Rel K m S H) {n : Nat} {o : SO} (hs : S[n]? = some o) : ∃ a, m[n]? = some a := by
  have h := (List.getElem?_eq_some_iff.mp hs).1
  rw [← r.len] at h
  exact ⟨m[n], List.getElem?_eq_getElem h⟩

/-! ### a sequence read -/
theorem FzL.sql {a : Addr} {xs : List V} (h : FzL K H a xs) : SqL K H a xs := by
  rcases h with ⟨o, h⟩ | h
  · exact .inl (.inr ⟨o, h⟩)
  · rcases h with (h | ⟨o, h⟩) | h
    · cases h
    · cases h
    · exact .inr h
theorem seq_rel (r : Rel K m S H) {x : D} {v : V} {ds : List D} (hv : VR K m H x v) (hs : seqAt S x = some ds) : ∃ a xs, v = .ref a ∧ (SqL K H a xs ∨ SqT K H a xs) ∧ VRs K m H ds xs := by
  cases x with
  | tup es =>
    obtain ⟨a, xs, e, h1, h2⟩ := hv
    cases hs
    exact ⟨a, xs, e, .inr h1, h2⟩
  | frz es =>
    obtain ⟨a, xs, e, h1, h2⟩ := hv
    cases hs
    exact ⟨a, xs, e, .inl h1.sql, h2⟩
  | ref n =>
    obtain ⟨a, e, h1⟩ := hv
    have hs : lstAt S n = some ds := hs
    unfold lstAt at hs
    split at hs
    · rename_i ys q
      cases hs
      obtain ⟨xs, q1, q2⟩ := r.lst h1 q
      exact ⟨a, xs, e, .inl (SqL.of q1), q2⟩
    · cases hs
  | _ => cases hs
theorem lstAt_some {S : Sto} {n : Nat} {ds : List D} (h : lstAt S n = some ds) : S[n]? = some (.lst ds) := by
  unfold lstAt at h
  split at h
  · rename_i q; cases h; exact q
  · cases h

/-! ### flat values -/
theorem flat_V {d : D} {v : V} (h : VR K m H d v) (f : flat d = true) : v = fV d ∧ flatV v = true := by
  cases d with
  | non => cases h; exact ⟨rfl, rfl⟩
  | bl b => cases h; exact ⟨rfl, rfl⟩
  | int i => cases h; exact ⟨rfl, rfl⟩
  | str x => cases h; exact ⟨rfl, rfl⟩
  | tup _ => cases f
  | frz _ => cases f
  | ref _ => cases f
theorem flat_Vs : ∀ {ds : List D} {vs : List V}, VRs K m H ds vs → ds.all flat = true → vs = ds.map fV ∧ vs.all flatV = true
  | [], _, h, _ => by
    have h : _ = [] := h
    subst h; exact ⟨rfl, rfl⟩
  | d :: ds, _, h, f => by
    obtain ⟨v, ws, e, h1, h2⟩ := h
    simp only [List.all_cons, Bool.and_eq_true] at f
    obtain ⟨q1, q2⟩ := flat_V h1 f.1
    obtain ⟨q3, q4⟩ := flat_Vs h2 f.2
    subst e
    refine ⟨by rw [List.map_cons, ← q1, ← q3], ?_⟩
    simp [q2, q4]
theorem ints_rel : ∀ {ds : List D} {vs : List V} {is : List Int}, VRs K m H ds vs → intsOf ds = some is → vs = is.map V.int
  | [], _, _, h, e => by
    have h : _ = [] := h
    cases e
    subst h; rfl
  | d :: ds, _, _, h, e => by
    obtain ⟨v, ws, e1, h1, h2⟩ := h
    cases d with
    | int i =>
      have e : (intsOf ds).map (fun is => i :: is) = some _ := e
      cases q : intsOf ds with
      | none => rw [q] at e; cases e
      | some js =>
        rw [q] at e
        cases e
        have h1 : v = V.int i := h1
        rw [e1, h1, ints_rel h2 q]; rfl
    | _ => cases e
theorem bls_rel : ∀ {ds : List D} {vs : List V} {is : List Bool}, VRs K m H ds vs → blsOf ds = some is → vs = is.map V.bl
  | [], _, _, h, e => by
    have h : _ = [] := h
    cases e
    subst h; rfl
  | d :: ds, _, _, h, e => by
    obtain ⟨v, ws, e1, h1, h2⟩ := h
    cases d with
    | bl i =>
      have e : (blsOf ds).map (fun is => i :: is) = some _ := e
      cases q : blsOf ds with
      | none => rw [q] at e; cases e
      | some js =>
        rw [q] at e
        cases e
        have h1 : v = V.bl i := h1
        rw [e1, h1, bls_rel h2 q]; rfl
    | _ => cases e
theorem VRs.ints : ∀ (is : List Int), VRs K m H (is.map D.int) (is.map V.int)
  | [] => rfl
  | i :: is => ⟨_, _, rfl, rfl, VRs.ints is⟩
end
end Mi

end
section
set_option Elab.async false
set_option linter.all false
set_option maxRecDepth 100000
set_option maxHeartbeats 4000000
/-! Readings refined by functions over plain data. -/
namespace Mi
open PySem L2
section
variable (K : PySem.W.Frag) (XR : List Addr → Hp → Value → Option Addr → Nat → D → Prop) (E : XK)
/-- what is wanted behind an error -/
def PostX (m : List Addr) (H : Hp) (c : Nat) (dv : D) (S' : Sto) : Prop := ∀ cls d H' m', Ext K m H m' H' → Rel K m' S' H' → XR m' H' cls d c dv → E cls d H'
def Post {α β : Type} (VRel : List Addr → Hp → α → β → Prop) (m : List Addr) (H : Hp) (r : R α) (Q : β → Hp → Prop) : Prop := match r with
  | .ok a S' => ∀ v H' m', Ext K m H m' H' → Rel K m' S' H' → VRel m' H' a v → Q v H'
  | .ex c dv S' => PostX K XR E m H c dv S'
/-- a reading, for what a function tells -/
def Ref {α β : Type} (VRel : List Addr → Hp → α → β → Prop) (t : St → Hp → (β → Hp → Prop) → Prop) (f : Loc → Sto → Option (R α)) : Prop :=
  ∀ m H S ρ σ r Q, Rel K m S H → VO K m H ρ σ → f ρ S = some r → Post K XR E VRel m H r Q → t σ H Q
def eqR {α : Type} : List Addr → Hp → α → α → Prop := fun _ _ a b => b = a
abbrev RefE (t : TE) (f : Loc → Sto → Option (R D)) : Prop := Ref K XR E (VR K) t f
abbrev RefA (t : TA) (f : Loc → Sto → Option (R (List D))) : Prop := Ref K XR E (VRs K) t f
abbrev RefT (t : TT) (f : Loc → Sto → Option (R Bool)) : Prop := Ref K XR E eqR t f
abbrev RefO (t : TO) (f : Loc → Sto → Option (R (Option Int))) : Prop := Ref K XR E eqR t f
end
section
variable {K : PySem.W.Frag} {XR : List Addr → Hp → Value → Option Addr → Nat → D → Prop} {E : XK} {m m' m2 : List Addr} {H H' H2 : Hp} {S S' : Sto} {ρ : Loc} {σ : St}
theorem PostX.mono {c : Nat} {dv : D} {S' : Sto} (e : Ext K m H m' H') (p : PostX K XR E m H c dv S') : PostX K XR E m' H' c dv S' := fun cls d H2 m2 e2 r x => p cls d H2 m2 (e.trans e2) r x
theorem Post.mono {α β : Type} {VRel : List Addr → Hp → α → β → Prop} {r : R α} {Q : β → Hp → Prop} (e : Ext K m H m' H') (p : Post K XR E VRel m H r Q) : Post K XR E VRel m' H' r Q := by
  cases r with
  | ok a S' => exact fun v H2 m2 e2 r x => p v H2 m2 (e.trans e2) r x
  | ex c dv S' => exact PostX.mono e p
/-- one after the other -/
theorem ref_bnd {α β γ δ : Type} {V1 : List Addr → Hp → α → β → Prop} {V2 : List Addr → Hp → γ → δ → Prop} {t : St → Hp → (β → Hp → Prop) → Prop} {f : Loc → Sto → Option (R α)} (h : Ref K XR E V1 t f)
    {k : α → Sto → Option (R γ)} {r : R γ} {Q : β → Hp → Prop} {Q' : δ → Hp → Prop} (rel : Rel K m S H) (vo : VO K m H ρ σ) (hf : bnd (f ρ S) k = some r) (p : Post K XR E V2 m H r Q')
    (hk : ∀ a S1 v H1 m1, Ext K m H m1 H1 → Rel K m1 S1 H1 → VO K m1 H1 ρ σ → V1 m1 H1 a v → k a S1 = some r → Post K XR E V2 m1 H1 r Q' → Q v H1) : t σ H Q := by
  cases q : f ρ S with
  | none => rw [q] at hf; cases hf
  | some r1 =>
    rw [q] at hf
    refine h m H S ρ σ r1 Q rel vo q ?_
    cases r1 with
    | ok a S1 => exact fun v H1 m1 e1 rel1 hv => hk a S1 v H1 m1 e1 rel1 (vo.mono e1) hv hf (p.mono e1)
    | ex c dv S1 =>
      have hf : some (R.ex c dv S1) = some r := hf
      cases hf
      exact p
/-- the end: a value at the heap as it is -/
theorem post_ok {α β : Type} {V1 : List Addr → Hp → α → β → Prop} {a : α} {S' : Sto} {Q : β → Hp → Prop} (p : Post K XR E V1 m H (.ok a S') Q) {v : β} {H' : Hp} {m' : List Addr} (e : Ext K m H m' H') (r : Rel K m' S' H') (h : V1 m' H' a v) : Q v H' := p v H' m' e r h
theorem post_here {α β : Type} {V1 : List Addr → Hp → α → β → Prop} {a : α} {Q : β → Hp → Prop} (p : Post K XR E V1 m H (.ok a S) Q) {v : β} (r : Rel K m S H) (h : V1 m H a v) : Q v H := p v H m Ext.refl r h

theorem ref_var {i : Nat} : RefE K XR E (tVar i) (fun ρ S => match ρ[i]? with | some (some d) => some (.ok d S) | _ => none) := by
  intro m H S ρ σ r Q rel vo hf p
  dsimp only at hf
  split at hf
  · rename_i d q
    cases hf
    obtain ⟨v, e, h⟩ := vo.at_ i d q
    exact ⟨v, e, post_here p rel h⟩
  · cases hf
theorem ref_c {d : D} {v : V} (h : ∀ m H, VR K m H d v) : RefE K XR E (tC v) (fun _ S => some (.ok d S)) := by
  intro m H S ρ σ r Q rel vo hf p
  cases hf
  exact post_here p rel (h m H)
theorem ref_nil : RefA K XR E tNil (fun _ S => some (.ok [] S)) := by
  intro m H S ρ σ r Q rel vo hf p
  cases hf
  exact post_here p rel VRs.nil
theorem ref_cons {te : TE} {tr : TA} {f : Loc → Sto → Option (R D)} {g : Loc → Sto → Option (R (List D))} (he : RefE K XR E te f) (hr : RefA K XR E tr g) :
    RefA K XR E (tCons te tr) (fun ρ S => bnd (f ρ S) fun d S1 => bnd (g ρ S1) fun ds S2 => some (.ok (d :: ds) S2)) := by
  intro m H S ρ σ r Q rel vo hf p
  refine ref_bnd he rel vo hf p fun d S1 v H1 m1 e1 rel1 vo1 hv hf p => ?_
  refine ref_bnd hr rel1 vo1 hf p fun ds S2 vs H2 m2 e2 rel2 vo2 hvs hf p => ?_
  cases hf
  exact post_here p rel2 ⟨v, vs, rfl, VR.mono e2 d v hv, hvs⟩
theorem ref_tup {t : TA} {g : Loc → Sto → Option (R (List D))} (h : RefA K XR E t g) : RefE K XR E (tTup t) (fun ρ S => bnd (g ρ S) fun ds S1 => if ds.length ≤ sizeLine then some (.ok (.tup ds) S1) else none) := by
  intro m H S ρ σ r Q rel vo hf p
  refine ref_bnd h rel vo hf p fun ds S1 vs H1 m1 e1 rel1 vo1 hv hf p => ?_
  split at hf
  · rename_i hz
    cases hf
    refine ⟨by rw [hv.length]; exact hz, fun q hq => ?_⟩
    have e2 := Ext.new (o := .tup vs) rel1 hq [] (by simp)
    rw [List.append_nil] at e2
    refine post_ok p e2 ⟨rel1.len, rel1.inj, fun n a o h1 h2 => OR.mono e2 (upd_ne fun z => rel1.fresh hq (z ▸ List.mem_of_getElem? h1)) (rel1.obj n a o h1 h2)⟩ ⟨q, vs, rfl, SqT.of upd_same, VRs.mono e2 _ _ hv⟩
  · cases hf
/-- a new list of the store -/
theorem new_lst {ds : List D} {vs : List V} {q : Addr} (rel : Rel K m S H) (hq : H q = none) (hv : VRs K m H ds vs) :
    Ext K m H (m ++ [q]) (upd H q (.lst vs)) ∧ Rel K (m ++ [q]) (S ++ [.lst ds]) (upd H q (.lst vs)) ∧ VR K (m ++ [q]) (upd H q (.lst vs)) (.ref S.length) (.ref q) := by
  have e := Ext.new (o := .lst vs) rel hq [q] (by simp)
  exact ⟨e, rel.alloc hq ⟨vs, upd_same, VRs.mono e _ _ hv⟩, q, rfl, by rw [← rel.len]; exact alloc_get q⟩
theorem ref_lst {t : TA} {g : Loc → Sto → Option (R (List D))} (h : RefA K XR E t g) : RefE K XR E (tLst t) (fun ρ S => bnd (g ρ S) fun ds S1 => if ds.length ≤ sizeLine then some (.ok (.ref S1.length) (S1 ++ [.lst ds])) else none) := by
  intro m H S ρ σ r Q rel vo hf p
  refine ref_bnd h rel vo hf p fun ds S1 vs H1 m1 e1 rel1 vo1 hv hf p => ?_
  split at hf
  · rename_i hz
    cases hf
    refine ⟨by rw [hv.length]; exact hz, fun q hq => ?_⟩
    obtain ⟨a1, a2, a3⟩ := new_lst rel1 hq hv
    exact post_ok p a1 a2 a3
  · cases hf
/-- two values, then an operation on them -/
def Op2R (K : PySem.W.Frag) (r : R2) (k : Sto → D → D → Option (D × Sto)) : Prop := ∀ m H S x y dx dy d S' (Q : VK), Rel K m S H → VR K m H dx x → VR K m H dy y → k S dx dy = some (d, S') →
  (∀ v H' m', Ext K m H m' H' → Rel K m' S' H' → VR K m' H' d v → Q v H') → r x y H Q
theorem ref_op {ta tb : TE} {f g : Loc → Sto → Option (R D)} {r : R2} {k : Sto → D → D → Option (D × Sto)} (ho : Op2R K r k) (ha : RefE K XR E ta f) (hb : RefE K XR E tb g) :
    RefE K XR E (tOp r ta tb) (fun ρ S => bnd (f ρ S) fun x S1 => bnd (g ρ S1) fun y S2 => lift2 (k S2 x y)) := by
  intro m H S ρ σ rr Q rel vo hf p
  refine ref_bnd ha rel vo hf p fun x S1 v H1 m1 e1 rel1 vo1 hv hf p => ?_
  refine ref_bnd hb rel1 vo1 hf p fun y S2 u H2 m2 e2 rel2 vo2 hu hf p => ?_
  unfold lift2 at hf
  cases q : k S2 x y with
  | none => rw [q] at hf; cases hf
  | some w =>
    rw [q] at hf
    cases hf
    exact ho m2 H2 S2 v u x y w.1 w.2 Q rel2 (VR.mono e2 x v hv) hu q p
theorem Op2R.or {r r' : R2} {k k' kk : Sto → D → D → Option (D × Sto)} (h : Op2R K r k) (h' : Op2R K r' k') (hk : ∀ S x y w, kk S x y = some w → k S x y = some w ∨ k' S x y = some w) :
    Op2R K (fun x y H Q => r x y H Q ∨ r' x y H Q) kk := by
  intro m H S x y dx dy d S' Q rel hx hy hf p
  rcases hk S dx dy _ hf with z | z
  · exact .inl (h m H S x y dx dy d S' Q rel hx hy z p)
  · exact .inr (h' m H S x y dx dy d S' Q rel hx hy z p)
/-- a comparison, by values -/
def Cm2R (K : PySem.W.Frag) (r : R2) (k : Sto → D → D → Option Bool) : Prop := ∀ m H S x y dx dy b (Q : VK), Rel K m S H → VR K m H dx x → VR K m H dy y → k S dx dy = some b → Q (.bl b) H → r x y H Q
theorem ref_cmp {ta tb : TE} {f g : Loc → Sto → Option (R D)} {r : R2} {k : Sto → D → D → Option Bool} (ho : Cm2R K r k) (ha : RefE K XR E ta f) (hb : RefE K XR E tb g) :
    RefE K XR E (tOp r ta tb) (fun ρ S => bnd (f ρ S) fun x S1 => bnd (g ρ S1) fun y S2 => (k S2 x y).map fun b => .ok (.bl b) S2) := by
  intro m H S ρ σ rr Q rel vo hf p
  refine ref_bnd ha rel vo hf p fun x S1 v H1 m1 e1 rel1 vo1 hv hf p => ?_
  refine ref_bnd hb rel1 vo1 hf p fun y S2 u H2 m2 e2 rel2 vo2 hu hf p => ?_
  cases q : k S2 x y with
  | none => rw [q] at hf; cases hf
  | some b =>
    rw [q] at hf
    cases hf
    exact ho m2 H2 S2 v u x y b Q rel2 (VR.mono e2 x v hv) hu q (post_here p rel2 rfl)
/-- a value that is a bool, as a test -/
theorem ref_test {t : TE} {f : Loc → Sto → Option (R D)} (h : RefE K XR E t f) : RefT K XR E (tTest t) (fun ρ S => tst (f ρ S)) := by
  intro m H S ρ σ rr Q rel vo hf p
  refine ref_bnd h rel vo hf p fun x S1 v H1 m1 e1 rel1 vo1 hv hf p => ?_
  cases x with
  | bl b =>
    cases hf
    have hv : v = .bl b := hv
    exact ⟨b, hv, post_here p rel1 rfl⟩
  | _ => cases hf
theorem tst_eq_bnd (x : Option (R D)) : tst x = bnd x fun d S => match d with | .bl b => some (.ok b S) | _ => none := rfl
theorem ref_and {t u : TT} {f g : Loc → Sto → Option (R Bool)} (h : RefT K XR E t f) (h' : RefT K XR E u g) : RefT K XR E (tAnd t u) (fun ρ S => bnd (f ρ S) fun b S1 => if b = true then g ρ S1 else some (.ok false S1)) := by
  intro m H S ρ σ rr Q rel vo hf p
  refine ref_bnd h rel vo hf p fun b S1 v H1 m1 e1 rel1 vo1 hv hf p => ?_
  have hv : v = b := hv
  subst hv
  cases v with
  | true =>
    rw [if_pos rfl] at hf ⊢
    exact h' m1 H1 S1 ρ σ rr Q rel1 vo1 hf p
  | false =>
    rw [if_neg Bool.false_ne_true] at hf ⊢
    cases hf
    exact post_here p rel1 rfl
theorem ref_or {t u : TT} {f g : Loc → Sto → Option (R Bool)} (h : RefT K XR E t f) (h' : RefT K XR E u g) : RefT K XR E (tOr t u) (fun ρ S => bnd (f ρ S) fun b S1 => if b = true then some (.ok true S1) else g ρ S1) := by
  intro m H S ρ σ rr Q rel vo hf p
  refine ref_bnd h rel vo hf p fun b S1 v H1 m1 e1 rel1 vo1 hv hf p => ?_
  have hv : v = b := hv
  subst hv
  cases v with
  | true =>
    rw [if_pos rfl] at hf ⊢
    cases hf
    exact post_here p rel1 rfl
  | false =>
    rw [if_neg Bool.false_ne_true] at hf ⊢
    exact h' m1 H1 S1 ρ σ rr Q rel1 vo1 hf p
theorem ref_not {t : TT} {f : Loc → Sto → Option (R Bool)} (h : RefT K XR E t f) : RefT K XR E (tNot t) (fun ρ S => bnd (f ρ S) fun b S1 => some (.ok (!b) S1)) := by
  intro m H S ρ σ rr Q rel vo hf p
  refine ref_bnd h rel vo hf p fun b S1 v H1 m1 e1 rel1 vo1 hv hf p => ?_
  have hv : v = b := hv
  subst hv
  cases hf
  exact post_here p rel1 rfl
theorem ref_ite {tc : TT} {ta tb : TE} {fc : Loc → Sto → Option (R Bool)} {f g : Loc → Sto → Option (R D)} (hc : RefT K XR E tc fc) (ha : RefE K XR E ta f) (hb : RefE K XR E tb g) :
    RefE K XR E (tIf tc ta tb) (fun ρ S => bnd (fc ρ S) fun t S1 => if t = true then f ρ S1 else g ρ S1) := by
  intro m H S ρ σ rr Q rel vo hf p
  refine ref_bnd hc rel vo hf p fun b S1 v H1 m1 e1 rel1 vo1 hv hf p => ?_
  have hv : v = b := hv
  subst hv
  cases v with
  | true =>
    rw [if_pos rfl] at hf ⊢
    exact ha m1 H1 S1 ρ σ rr Q rel1 vo1 hf p
  | false =>
    rw [if_neg Bool.false_ne_true] at hf ⊢
    exact hb m1 H1 S1 ρ σ rr Q rel1 vo1 hf p
theorem ref_andV {ta tb : TE} {f g : Loc → Sto → Option (R D)} (h : RefE K XR E ta f) (h' : RefE K XR E tb g) : RefE K XR E (tAndV ta tb) (fun ρ S => bnd (tst (f ρ S)) fun b S1 => if b = true then g ρ S1 else some (.ok (.bl false) S1)) := by
  intro m H S ρ σ rr Q rel vo hf p
  refine ref_bnd (ref_test h) rel vo hf p (Q := fun b H1 => if b = true then tb σ H1 Q else Q (.bl false) H1) fun b S1 v H1 m1 e1 rel1 vo1 hv hf p => ?_
  have hv : v = b := hv
  subst hv
  cases v with
  | true =>
    rw [if_pos rfl] at hf ⊢
    exact h' m1 H1 S1 ρ σ rr Q rel1 vo1 hf p
  | false =>
    rw [if_neg Bool.false_ne_true] at hf ⊢
    cases hf
    exact post_here p rel1 rfl
theorem ref_orV {ta tb : TE} {f g : Loc → Sto → Option (R D)} (h : RefE K XR E ta f) (h' : RefE K XR E tb g) : RefE K XR E (tOrV ta tb) (fun ρ S => bnd (tst (f ρ S)) fun b S1 => if b = true then some (.ok (.bl true) S1) else g ρ S1) := by
  intro m H S ρ σ rr Q rel vo hf p
  refine ref_bnd (ref_test h) rel vo hf p (Q := fun b H1 => if b = true then Q (.bl true) H1 else tb σ H1 Q) fun b S1 v H1 m1 e1 rel1 vo1 hv hf p => ?_
  have hv : v = b := hv
  subst hv
  cases v with
  | true =>
    rw [if_pos rfl] at hf ⊢
    cases hf
    exact post_here p rel1 rfl
  | false =>
    rw [if_neg Bool.false_ne_true] at hf ⊢
    exact h' m1 H1 S1 ρ σ rr Q rel1 vo1 hf p
theorem ref_lastV {ta : TE} {f : Loc → Sto → Option (R D)} (h : RefE K XR E ta f) : RefE K XR E ta (fun ρ S => bnd (tst (f ρ S)) fun b S1 => some (.ok (.bl b) S1)) := by
  intro m H S ρ σ rr Q rel vo hf p
  dsimp only at hf
  cases q : f ρ S with
  | none => rw [q] at hf; cases hf
  | some r1 =>
    refine h m H S ρ σ r1 Q rel vo q ?_
    rw [q] at hf
    cases r1 with
    | ok d S1 =>
      cases d with
      | bl b => cases hf; exact p
      | _ => cases hf
    | ex c dv S1 => cases hf; exact p
theorem ref_notV {ta : TE} {f : Loc → Sto → Option (R D)} (h : RefE K XR E ta f) : RefE K XR E (tNotV ta) (fun ρ S => bnd (tst (f ρ S)) fun b S1 => some (.ok (.bl (!b)) S1)) := by
  intro m H S ρ σ rr Q rel vo hf p
  refine ref_bnd (ref_test h) rel vo hf p (Q := fun b H1 => Q (.bl (!b)) H1) fun b S1 v H1 m1 e1 rel1 vo1 hv hf p => ?_
  have hv : v = b := hv
  subst hv
  cases hf
  exact post_here p rel1 rfl
end
end Mi

end
section
set_option Elab.async false
set_option linter.all false
set_option maxRecDepth 100000
set_option maxHeartbeats 4000000
/-! The operations. -/
namespace Mi
open PySem L2 PySem.Spec PyProof.Rows
section
variable {X : Cx}
theorem mulOk_ok {i j : Int} (h : mulOk i j) : IntMulOk i j := by
  rcases h with h | h | ⟨h1, h2, h3, h4⟩
  · exact (show CMul i j from .inl h).ok
  · exact (show CMul i j from .inr h).ok
  · exact (mulx_ok (a := 4096) (b := 4096) (by omega) (by omega) (by decide)).ok
theorem opr_mul : OpR X (binaryOp .Mult) (rI mulOk fun i j => .int (i * j)) := opI fun _ _ _ _ _ _ _ hc q => mul_int q (mulOk_ok hc)
theorem opr_pow : OpR X (binaryOp .Pow) (rI powOk fun i j => .int (i ^ j.toNat)) := opI fun i j _ _ _ _ _ hc q => by
  obtain ⟨h0, h1, h2, h3⟩ := hc
  refine pow_int h0 ?_ q
  have hb : Builtin.Int.intBits i ≤ 4096 := intBits_le (by omega)
  have h4 : (Builtin.Int.intBits i : Int) * j ≤ 4096 * j := Int.mul_le_mul_of_nonneg_right (by omega) h0
  omega
def rFdiv : R2 := rI (fun _ j => 0 < j ∧ j < 2 ^ 4096) fun i j => .int (i / j)
theorem opr_fdiv : OpR X (binaryOp .FloorDiv) rFdiv := by
  intro pins s σ H x y v u Q I rx ry h
  obtain ⟨i, j, e1, e2, ⟨h1, h2⟩, q⟩ := h
  exact op_fdivW pins s σ H x y v u Q I rx ry ⟨i, j, e1, e2, wide_div h1 (b := 4096) (by omega) (by decide) (by decide), q⟩
/-- texts -/
def rAddStr : R2 := fun x y H Q => ∃ i j, x = .str i ∧ y = .str j ∧ i.length + j.length ≤ sizeLine ∧ Q (.str (i ++ j)) H
theorem opr_addstr : OpR X (binaryOp .Add) rAddStr := op_add_str
theorem OpR.or4 {f : Value → Value → Sem Value} {a b c d : R2} (h1 : OpR X f a) (h2 : OpR X f b) (h3 : OpR X f c) (h4 : OpR X f d) : OpR X f (fun x y H Q => a x y H Q ∨ b x y H Q ∨ c x y H Q ∨ d x y H Q) := OpR.or h1 (OpR.or h2 (OpR.or h3 h4))
end
/-- + of ints, texts, tuples, lists -/
def rAdd4 (K : PySem.W.Frag) : R2 := fun x y H Q => rI0 (fun i j => .int (i + j)) x y H Q ∨ rAddStr x y H Q ∨ rCatA K x y H Q ∨ rCat x y H Q
theorem opr_add {X : Cx} : OpR X (binaryOp .Add) (rAdd4 X.K) := OpR.or4 op_add opr_addstr op_catA op_cat
section
variable {K : PySem.W.Frag} {m m' : List Addr} {H H' : Hp} {S : Sto}
theorem vr_int {d : D} {v : V} {i : Int} (h : VR K m H d v) (e : d = .int i) : v = .int i := by subst e; exact h
theorem op2_add : Op2R K (rAdd4 K) (fun S => opD S .add) := by
  intro m H S x y dx dy d S' Q rel hx hy hf p
  cases dx with
  | int i =>
    cases dy with
    | int j => cases hf; exact .inl ⟨i, j, hx, hy, p _ H m Ext.refl rel rfl⟩
    | _ => cases hf
  | str a =>
    cases dy with
    | str b =>
      have hf : (if a.length + b.length ≤ sizeLine then some (D.str (a ++ b), S) else none) = some (d, S') := hf
      split at hf
      · rename_i hz
        cases hf
        exact .inr (.inl ⟨a, b, hx, hy, hz, p _ H m Ext.refl rel rfl⟩)
      · cases hf
    | _ => cases hf
  | tup xs =>
    cases dy with
    | tup ys =>
      have hf : (if xs.length + ys.length ≤ sizeLine then some (D.tup (xs ++ ys), S) else none) = some (d, S') := hf
      split at hf
      · rename_i hz
        cases hf
        obtain ⟨a, vs, e1, h1, h2⟩ := hx
        obtain ⟨b, ws, e2, h3, h4⟩ := hy
        refine .inr (.inr (.inl ⟨a, b, vs, ws, e1, e2, h1, h3, by rw [h2.length, h4.length]; exact hz, fun n => ?_, fun n1 n2 => ?_, fun n1 n2 q hq => ?_⟩))
        · refine p _ H m Ext.refl rel ⟨b, ws, rfl, h3, ?_⟩
          rw [h2.eq_nil.mp n]; exact h4
        · refine p _ H m Ext.refl rel ⟨a, vs, rfl, h1, ?_⟩
          rw [h4.eq_nil.mp n2, List.append_nil]; exact h2
        · have e := Ext.new (o := .tup (vs ++ ws)) rel hq [] (by simp)
          rw [List.append_nil] at e
          refine p _ _ m e ⟨rel.len, rel.inj, fun n a o g1 g2 => OR.mono e (upd_ne fun z => rel.fresh hq (z ▸ List.mem_of_getElem? g1)) (rel.obj n a o g1 g2)⟩ ⟨q, vs ++ ws, rfl, SqT.of upd_same, VRs.mono e _ _ (h2.append h4)⟩
      · cases hf
    | _ => cases hf
  | ref a =>
    cases dy with
    | ref b =>
      have hf : (match S[a]?, S[b]? with
        | some (.lst xs), some (.lst ys) => if xs.length + ys.length ≤ sizeLine then some (D.ref S.length, S ++ [.lst (xs ++ ys)]) else none
        | _, _ => none) = some (d, S') := hf
      split at hf
      · rename_i xs ys g1 g2
        split at hf
        · rename_i hz
          cases hf
          obtain ⟨p1, e1, h1⟩ := hx
          obtain ⟨p2, e2, h2⟩ := hy
          obtain ⟨vs, q1, r1⟩ := rel.lst h1 g1
          obtain ⟨ws, q2, r2⟩ := rel.lst h2 g2
          refine .inr (.inr (.inr ⟨p1, p2, vs, ws, e1, e2, q1, q2, by rw [r1.length, r2.length]; exact hz, fun q hq => ?_⟩))
          obtain ⟨a1, a2, a3⟩ := new_lst rel hq (r1.append r2)
          exact p _ _ _ a1 a2 a3
        · cases hf
      · cases hf
    | _ => cases hf
  | _ => cases hf
theorem op2_int {C : Int → Int → Prop} {g : Int → Int → Int} {k : Sto → D → D → Option (D × Sto)} (h : ∀ S x y w, k S x y = some w → ∃ i j, x = .int i ∧ y = .int j ∧ C i j ∧ w = (.int (g i j), S)) : Op2R K (rI C fun i j => .int (g i j)) k := by
  intro m H S x y dx dy d S' Q rel hx hy hf p
  obtain ⟨i, j, e1, e2, hc, e3⟩ := h S dx dy _ hf
  cases e3
  exact ⟨i, j, vr_int hx e1, vr_int hy e2, hc, p _ H m Ext.refl rel rfl⟩
theorem op2_sub : Op2R K (rI0 fun i j => .int (i - j)) (fun S => opD S .sub) := by
  intro m H S x y dx dy d S' Q rel hx hy hf p
  cases dx with
  | int i =>
    cases dy with
    | int j => cases hf; exact ⟨i, j, hx, hy, p _ H m Ext.refl rel rfl⟩
    | _ => cases hf
  | _ => cases hf
theorem if_some {α : Type} {c : Prop} [Decidable c] {a b : α} (h : (if c then some a else none) = some b) : c ∧ b = a := by
  split at h
  · rename_i hc; cases h; exact ⟨hc, rfl⟩
  · cases h
theorem op2_mul : Op2R K (rI mulOk fun i j => .int (i * j)) (fun S => opD S .mul) := op2_int fun S x y w h => by
  cases x with
  | int i =>
    cases y with
    | int j => obtain ⟨a, b⟩ := if_some (show (if mulOk i j then some (D.int (i * j), S) else none) = some w from h); exact ⟨i, j, rfl, rfl, a, b⟩
    | _ => cases h
  | _ => cases h
theorem op2_fdiv : Op2R K rFdiv (fun S => opD S .fdiv) := op2_int fun S x y w h => by
  cases x with
  | int i =>
    cases y with
    | int j => obtain ⟨a, b⟩ := if_some (show (if 0 < j ∧ j < 2 ^ 4096 then some (D.int (i / j), S) else none) = some w from h); exact ⟨i, j, rfl, rfl, a, b⟩
    | _ => cases h
  | _ => cases h
theorem op2_mod : Op2R K (rI (fun _ j => 0 < j) fun i j => .int (i % j)) (fun S => opD S .mod) := op2_int fun S x y w h => by
  cases x with
  | int i =>
    cases y with
    | int j => obtain ⟨a, b⟩ := if_some (show (if 0 < j then some (D.int (i % j), S) else none) = some w from h); exact ⟨i, j, rfl, rfl, a, b⟩
    | _ => cases h
  | _ => cases h
theorem op2_pow : Op2R K (rI powOk fun i j => .int (i ^ j.toNat)) (fun S => opD S .pow) := op2_int fun S x y w h => by
  cases x with
  | int i =>
    cases y with
    | int j => obtain ⟨a, b⟩ := if_some (show (if powOk i j then some (D.int (i ^ j.toNat), S) else none) = some w from h); exact ⟨i, j, rfl, rfl, a, b⟩
    | _ => cases h
  | _ => cases h
/-- the reading of an operation -/
def rOp (K : PySem.W.Frag) : Op2 → R2
  | .add => rAdd4 K
  | .sub => rI0 fun i j => .int (i - j)
  | .mul => rI mulOk fun i j => .int (i * j)
  | .fdiv => rFdiv
  | .mod => rI (fun _ j => 0 < j) fun i j => .int (i % j)
  | .pow => rI powOk fun i j => .int (i ^ j.toNat)
def oOp : Op2 → Operator
  | .add => .Add
  | .sub => .Sub
  | .mul => .Mult
  | .fdiv => .FloorDiv
  | .mod => .Mod
  | .pow => .Pow
theorem opr_op {X : Cx} : ∀ o, OpR X (binaryOp (oOp o)) (rOp X.K o)
  | .add => opr_add
  | .sub => op_sub
  | .mul => opr_mul
  | .fdiv => opr_fdiv
  | .mod => op_mod
  | .pow => opr_pow
theorem op2_op : ∀ o, Op2R K (rOp K o) (fun S => opD S o)
  | .add => op2_add
  | .sub => op2_sub
  | .mul => op2_mul
  | .fdiv => op2_fdiv
  | .mod => op2_mod
  | .pow => op2_pow

/-! ### data -/
mutual
theorem dp_of (f : Nat → Option PyData) (hf : ∀ n a p, m[n]? = some a → f n = some p → Dp K H (.ref a) p) : ∀ (d : D) (v : V) (p : PyData), VR K m H d v → toPyW f d = some p → Dp K H v p
  | .non, _, _, h, e => by cases h; cases e; exact .non
  | .bl b, _, _, h, e => by cases h; cases e; exact .bl b
  | .int i, _, _, h, e => by cases h; cases e; exact .int i
  | .str x, _, _, h, e => by cases h; cases e; exact .str x
  | .tup ds, v, p, h, e => by
    obtain ⟨a, xs, e1, h1, h2⟩ := h
    have e : (toPysW f ds).map PyData.tuple = some p := e
    cases q : toPysW f ds with
    | none => rw [q] at e; cases e
    | some ps => rw [q] at e; cases e; subst e1; exact .tup h1 (dps_of f hf ds xs ps h2 q)
  | .frz ds, v, p, h, e => by
    obtain ⟨a, xs, e1, h1, h2⟩ := h
    have e : (toPysW f ds).map PyData.list = some p := e
    cases q : toPysW f ds with
    | none => rw [q] at e; cases e
    | some ps => rw [q] at e; cases e; subst e1; exact .lst h1.sql (dps_of f hf ds xs ps h2 q)
  | .ref n, v, p, h, e => by
    obtain ⟨a, e1, h1⟩ := h
    subst e1
    exact hf n a p h1 e
theorem dps_of (f : Nat → Option PyData) (hf : ∀ n a p, m[n]? = some a → f n = some p → Dp K H (.ref a) p) : ∀ (ds : List D) (vs : List V) (ps : List PyData), VRs K m H ds vs → toPysW f ds = some ps → DpAll K H vs ps
  | [], _, _, h, e => by
    have h : _ = [] := h
    cases e
    subst h
    exact .nil
  | d :: ds, vs, ps, h, e => by
    obtain ⟨v, ws, e1, h1, h2⟩ := h
    have e : ((toPyW f d).bind fun p => (toPysW f ds).map fun ps => p :: ps) = some ps := e
    cases q : toPyW f d with
    | none => rw [q] at e; cases e
    | some p =>
      rw [q] at e
      cases q2 : toPysW f ds with
      | none => rw [q2] at e; cases e
      | some ps' =>
        rw [q2] at e
        cases e
        subst e1
        exact .cons (dp_of f hf d v p h1 q) (dps_of f hf ds ws ps' h2 q2)
end
/-- without dicts -/
def noD : PyData → Bool
  | .dict _ => false
  | _ => true
end
end Mi

end
section
set_option Elab.async false
set_option linter.all false
set_option maxRecDepth 100000
set_option maxHeartbeats 4000000
/-! What is read as the library's data; ==, in, repr. -/
namespace Mi
open PySem L2 PySem.Spec PyProof.Rows
/-- the table of modules is a dict of the base -/
def SysOk (base : Heap) : Prop := ∃ o, base.get? sysModules = some o ∧ o.cls = .type "dict"
section
variable {X : Cx} {pins : List (Addr × Obj)} {σ : L2.St} {H : Hp} {s : Shared} {m : List Addr} {S : Sto}
theorem not_sys (hs : SysOk X.base) (I : Inv X pins σ H s) {a : Addr} {o : Obj} (h : s.heap.get? a = some o) (hc : o.cls = .type "list") : a ≠ sysModules := by
  intro e
  obtain ⟨o', h1, h2⟩ := hs
  have h3 := (I.bs _ _ h1).1
  rw [e] at h
  rw [h] at h3
  cases h3
  rw [hc] at h2
  exact absurd h2 (by decide)
abbrev RdS (h : Heap) (u : Value) (p : PyData) : Prop := ∃ as, Reads h u p as ∧ sysModules ∉ as
abbrev RdsS (h : Heap) (us : List Value) (ps : List PyData) : Prop := ∃ as, ReadsAll h us ps as ∧ sysModules ∉ as
mutual
theorem reads_of (hs : SysOk X.base) (I : Inv X pins σ H s) (f : Nat → Option PyData) (hf : ∀ (n : Nat) (a : Addr) (p : PyData), m[n]? = some a → f n = some p → RdS s.heap (.ref a) p) :
    ∀ (d : D) (v : V) (p : PyData) (u : Value), VR X.K m H d v → toPyW f d = some p → RelV v u → RdS s.heap u p
  | .non, _, _, _, h, e, r => by cases h; cases e; cases r; exact ⟨_, .none, by simp⟩
  | .bl b, _, _, _, h, e, r => by cases h; cases e; cases r; exact ⟨_, .bool b, by simp⟩
  | .int i, _, _, _, h, e, r => by cases h; cases e; obtain ⟨t, rfl⟩ := r; exact ⟨_, .int i t, by simp⟩
  | .str x, _, _, _, h, e, r => by cases h; cases e; obtain ⟨t, rfl⟩ := r; exact ⟨_, .str x t, by simp⟩
  | .tup ds, v, p, u, h, e, r => by
    obtain ⟨a, xs, e1, h1, h2⟩ := h
    have e : (toPysW f ds).map PyData.tuple = some p := e
    cases q : toPysW f ds with
    | none => rw [q] at e; cases e
    | some ps =>
      rw [q] at e; cases e; subst e1; cases r
      obtain ⟨its, rv, ⟨o, ho, hc, n, hd⟩, _⟩ := I.tuple h1
      obtain ⟨as, g1, g2⟩ := readss_of hs I f hf ds xs ps its h2 q rv
      exact ⟨as, .tuple ho hc hd g1, g2⟩
  | .frz ds, v, p, u, h, e, r => by
    obtain ⟨a, xs, e1, h1, h2⟩ := h
    have e : (toPysW f ds).map PyData.list = some p := e
    cases q : toPysW f ds with
    | none => rw [q] at e; cases e
    | some ps =>
      rw [q] at e; cases e; subst e1; cases r
      obtain ⟨its, rv, ⟨o, n, ho, hc, hdd, hd⟩, _⟩ := I.list h1.sql
      obtain ⟨as, g1, g2⟩ := readss_of hs I f hf ds xs ps its h2 q rv
      refine ⟨a :: as, .list ho hc hd g1, fun z => ?_⟩
      rcases List.mem_cons.mp z with z | z
      · exact not_sys hs I ho hc z.symm
      · exact g2 z
  | .ref n, v, p, u, h, e, r => by
    obtain ⟨a, e1, h1⟩ := h
    subst e1
    cases r
    exact hf n a p h1 e
theorem readss_of (hs : SysOk X.base) (I : Inv X pins σ H s) (f : Nat → Option PyData) (hf : ∀ (n : Nat) (a : Addr) (p : PyData), m[n]? = some a → f n = some p → RdS s.heap (.ref a) p) :
    ∀ (ds : List D) (vs : List V) (ps : List PyData) (us : List Value), VRs X.K m H ds vs → toPysW f ds = some ps → Vals vs us → RdsS s.heap us ps
  | [], _, _, _, h, e, r => by
    have h : _ = [] := h
    cases e
    subst h
    cases r
    exact ⟨_, .nil, by simp⟩
  | d :: ds, vs, ps, us, h, e, r => by
    obtain ⟨v, ws, e1, h1, h2⟩ := h
    have e : ((toPyW f d).bind fun p => (toPysW f ds).map fun ps => p :: ps) = some ps := e
    cases q : toPyW f d with
    | none => rw [q] at e; cases e
    | some p =>
      rw [q] at e
      cases q2 : toPysW f ds with
      | none => rw [q2] at e; cases e
      | some ps' =>
        rw [q2] at e
        cases e
        subst e1
        cases r with
        | cons r1 r2 =>
          obtain ⟨as, g1, g2⟩ := reads_of hs I f hf d v p _ h1 q r1
          obtain ⟨bs, g3, g4⟩ := readss_of hs I f hf ds ws ps' _ h2 q2 r2
          exact ⟨as ++ bs, .cons g1 g3, fun z => (List.mem_append.mp z).elim g2 g4⟩
end
theorem toPysW_len {f : Nat → Option PyData} : ∀ {ds : List D} {ps : List PyData}, toPysW f ds = some ps → ps.length = ds.length
  | [], _, e => by cases e; rfl
  | d :: ds, ps, e => by
    have e : ((toPyW f d).bind fun p => (toPysW f ds).map fun ps => p :: ps) = some ps := e
    cases q : toPyW f d with
    | none => rw [q] at e; cases e
    | some p =>
      rw [q] at e
      cases q2 : toPysW f ds with
      | none => rw [q2] at e; cases e
      | some ps' => rw [q2] at e; cases e; rw [List.length_cons, List.length_cons, toPysW_len q2]
/-- a dict's entries, by its pairs -/
theorem pairs_key {P : Program} {w : World} : ∀ {es : List DictEntry} {vs : List (Key × Value)} {kvs : List (Key × V)} {h : Heap}, Pairs (mixKind P w) es vs → KV kvs vs →
    ReadsAll h (es.map (·.key)) (kvs.map fun q => tkey q.1) [] ∧ Vals (kvs.map (·.2)) (es.map (·.val))
  | _, _, _, h, .nil, r => by
    cases r
    exact ⟨.nil, .nil⟩
  | _, _, _, h, .cons (e := e) (kv := kv) (es := es) (kvs := vs) h1 h2 h3, r => by
    cases r with
    | @cons a _ as _ r1 r2 =>
      obtain ⟨a1, a2⟩ := r1
      obtain ⟨g1, g2⟩ := pairs_key (h := h) h3 r2
      refine ⟨?_, .cons (show RelV a.2 e.val by rw [h2]; exact a2) g2⟩
      have hk : keyIs kv.1 e.key = true := h1
      rcases keyIs_shape hk with ⟨i, t, e1, e2⟩ | ⟨x, t, e1, e2⟩
      · have : ReadsAll h (e.key :: es.map (·.key)) (tkey a.1 :: as.map fun q => tkey q.1) ([] ++ []) := by
          rw [a1, e1, e2]
          exact .cons (.int i t) g1
        exact this
      · have : ReadsAll h (e.key :: es.map (·.key)) (tkey a.1 :: as.map fun q => tkey q.1) ([] ++ []) := by
          rw [a1, e1, e2]
          exact .cons (.str x t) g1
        exact this
theorem reads_ref (hs : SysOk X.base) (I : Inv X pins σ H s) (rel : Rel X.K m S H) : ∀ (k n : Nat) (a : Addr) (p : PyData), m[n]? = some a → toPyR S k n = some p → RdS s.heap (.ref a) p
  | 0, _, _, _, _, e => by cases e
  | k + 1, n, a, p, h, e => by
    have ih := reads_ref hs I rel k
    unfold toPyR at e
    split at e
    · rename_i ds q
      obtain ⟨xs, h1, h2⟩ := rel.lst h q
      cases q3 : toPysW (toPyR S k) ds with
      | none => rw [q3] at e; cases e
      | some ps =>
        rw [q3] at e
        cases e
        obtain ⟨its, rv, ⟨o, nn, ho, hc, hdd, hd⟩, _⟩ := I.list (SqL.of h1)
        obtain ⟨as, g1, g2⟩ := readss_of hs I (toPyR S k) ih ds xs ps its h2 q3 rv
        refine ⟨a :: as, .list ho hc hd g1, fun z => ?_⟩
        rcases List.mem_cons.mp z with z | z
        · exact not_sys hs I ho hc z.symm
        · exact g2 z
    · rename_i kvs q
      obtain ⟨ws, h1, h2, h3⟩ := rel.obj n a _ h q
      cases q3 : toPysW (toPyR S k) (kvs.map (·.2)) with
      | none => rw [q3] at e; cases e
      | some ps =>
        rw [q3] at e
        cases e
        obtain ⟨_, hS, vs, r, o, es, ep, ho, hx, hd, hK, hP, _⟩ := (show ObjOk X.prog X.w H s.heap a (.dK ws) from I.hok a _ h1)
        obtain ⟨g1, g2⟩ := pairs_key (h := s.heap) hP r
        obtain ⟨as, g3, g4⟩ := readss_of hs I (toPyR S k) ih _ _ ps _ h3 q3 g2
        have hl : (kvs.map fun q => tkey q.1).length = ps.length := by rw [toPysW_len q3]; simp
        have hk : (ws.map fun q => tkey q.1) = kvs.map fun q => tkey q.1 := by
          have z := congrArg (List.map tkey) h2
          rw [List.map_map, List.map_map] at z
          exact z
        have e1 : ((kvs.map fun q => tkey q.1).zip ps).map (·.1) = kvs.map fun q => tkey q.1 := List.map_fst_zip (by omega)
        have e2 : ((kvs.map fun q => tkey q.1).zip ps).map (·.2) = ps := List.map_snd_zip (by omega)
        refine ⟨a :: [] ++ as, .dict ho hx.1 hd (by rw [e1, ← hk]; exact g1) (by rw [e2]; exact g3), fun z => ?_⟩
        rcases List.mem_cons.mp z with z | z
        · exact absurd z.symm (by simpa using hS)
        · exact g4 (by simpa using z)
    · cases e
theorem reads_py (hs : SysOk X.base) (I : Inv X pins σ H s) (rel : Rel X.K m S H) {d : D} {v : V} {p : PyData} {u : Value} (h : VR X.K m H d v) (e : toPy S d = some p) (r : RelV v u) : RdS s.heap u p :=
  reads_of hs I _ (reads_ref hs I rel 8) d v p u h e r

/-! ### comparisons -/
/-- a comparison by what the data say -/
def rCm (K : PySem.W.Frag) (c : Cm) : R2 := fun x y H Q => ∃ m S dx dy b, Rel K m S H ∧ VR K m H dx x ∧ VR K m H dy y ∧ cmpD S c dx dy = some b ∧ Q (.bl b) H
theorem cm2_cm {K : PySem.W.Frag} (c : Cm) : Cm2R K (rCm K c) (fun S => cmpD S c) := fun m H S x y dx dy b Q rel hx hy h q => ⟨m, S, dx, dy, b, rel, hx, hy, h, q⟩
def oCm : Cm → CmpOp
  | .lt => .Lt
  | .le => .LtE
  | .gt => .Gt
  | .ge => .GtE
  | .eq => .Eq
  | .ne => .NotEq
  | .isN => .Is
  | .notN => .IsNot
  | .isIn => .In
  | .notIn => .NotIn
theorem opr_int {f : Value → Value → Sem Value} {g : Int → Int → Bool} {K : PySem.W.Frag} {c : Cm} (ho : OpR X f (rI0 fun i j => .bl (g i j))) (hc : ∀ S x y b, cmpD S c x y = some b → ∃ i j, x = .int i ∧ y = .int j ∧ b = g i j) : OpR X f (rCm K c) := by
  intro pins s σ H x y v u Q I rx ry h
  obtain ⟨m, S, dx, dy, b, rel, hx, hy, e, q⟩ := h
  obtain ⟨i, j, e1, e2, e3⟩ := hc S dx dy b e
  subst e3
  exact ho pins s σ H x y v u Q I rx ry ⟨i, j, vr_int hx e1, vr_int hy e2, q⟩
theorem eq_cases {x y : D} {b : Bool} (h : eqD S x y = some b) : (∃ i j, x = .str i ∧ y = .str j ∧ b = decide (i = j)) ∨ ∃ p q, toPy S x = some p ∧ toPy S y = some q ∧ SeqAt.shaped p = true ∧ SeqAt.shaped q = true ∧ b = PyData.eqv p q := by
  have gen : ((toPy S x).bind fun p => (toPy S y).bind fun q => if (SeqAt.shaped p && SeqAt.shaped q) = true then some (PyData.eqv p q) else none) = some b →
      ∃ p q, toPy S x = some p ∧ toPy S y = some q ∧ SeqAt.shaped p = true ∧ SeqAt.shaped q = true ∧ b = PyData.eqv p q := fun h => by
    cases q1 : toPy S x with
    | none => rw [q1] at h; cases h
    | some p =>
      rw [q1] at h
      cases q2 : toPy S y with
      | none => rw [q2] at h; cases h
      | some q =>
        rw [q2] at h
        obtain ⟨hc, hb⟩ := if_some (show (if (SeqAt.shaped p && SeqAt.shaped q) = true then some (PyData.eqv p q) else none) = some b from h)
        rw [Bool.and_eq_true] at hc
        exact ⟨p, q, rfl, rfl, hc.1, hc.2, hb⟩
  cases x with
  | str i =>
    cases y with
    | str j => cases h; exact .inl ⟨i, j, rfl, rfl, rfl⟩
    | _ => exact .inr (gen h)
  | _ => exact .inr (gen h)
theorem opr_eq (hs : SysOk X.base) (hu : X.A.units + 64 < cLine) : OpR X (compareOp .Eq) (rCm X.K .eq) := by
  intro pins s σ H x y v u Q I rx ry h
  obtain ⟨m, S, dx, dy, b, rel, hx, hy, e, q⟩ := h
  rcases eq_cases (show eqD S dx dy = some b from e) with ⟨i, j, rfl, rfl, rfl⟩ | ⟨p, p2, e1, e2, s1, s2, rfl⟩
  · have hx : x = .str i := hx
    have hy : y = .str j := hy
    subst hx; subst hy
    refine op_eq pins s σ H _ _ v u Q I rx ry ⟨rfl, ?_⟩
    have : decide (V.str i = V.str j) = decide (i = j) := by simp
    rw [this]; exact q
  · obtain ⟨as, r1, _⟩ := reads_py hs I rel hx e1 rx
    obtain ⟨bs, r2, _⟩ := reads_py hs I rel hy e2 ry
    exact SeqAt.compareEq_shaped r1 r2 s1 s2 hu ⟨.bl _, H, I, rfl, q⟩
theorem opr_ne (hs : SysOk X.base) (hu : X.A.units + 64 < cLine) : OpR X (compareOp .NotEq) (rCm X.K .ne) := by
  intro pins s σ H x y v u Q I rx ry h
  obtain ⟨m, S, dx, dy, b, rel, hx, hy, e, q⟩ := h
  have e : (eqD S dx dy).map (fun b => !b) = some b := e
  cases e0 : eqD S dx dy with
  | none => rw [e0] at e; cases e
  | some b0 =>
    rw [e0] at e
    cases e
    rcases eq_cases e0 with ⟨i, j, rfl, rfl, rfl⟩ | ⟨p, p2, e1, e2, s1, s2, rfl⟩
    · have hx : x = .str i := hx
      have hy : y = .str j := hy
      subst hx; subst hy
      refine op_ne pins s σ H _ _ v u Q I rx ry ⟨rfl, ?_⟩
      have : decide (V.str i = V.str j) = decide (i = j) := by simp
      rw [this]; exact q
    · obtain ⟨as, r1, _⟩ := reads_py hs I rel hx e1 rx
      obtain ⟨bs, r2, _⟩ := reads_py hs I rel hy e2 ry
      exact SeqAt.compareNe_shaped r1 r2 s1 s2 hu ⟨.bl _, H, I, rfl, q⟩
theorem in_cases {x y : D} {b : Bool} (h : (seqAt S y).bind (inD x) = some b) : ∃ ys, seqAt S y = some ys ∧ flat x = true ∧ ys.all flat = true ∧ b = inV (fV x) (ys.map fV) := by
  cases q : seqAt S y with
  | none => rw [q] at h; cases h
  | some ys =>
    rw [q] at h
    obtain ⟨h1, h2⟩ := if_some (show (if (flat x && ys.all flat) = true then some (inV (fV x) (ys.map fV)) else none) = some b from h)
    rw [Bool.and_eq_true] at h1
    exact ⟨ys, rfl, h1.1, h1.2, h2⟩
theorem in_deep {x y : D} {b : Bool} (h : inDeep S x y = some b) : ∃ p ps, toPy S x = some p ∧ (toPy S y = some (.list ps) ∨ toPy S y = some (.tuple ps)) ∧ p.canLay0 = true ∧ PyData.canLayAll0 ps = true ∧ p.depth ≤ 60 ∧ b = ps.any fun z => PyData.eqv z p := by
  unfold inDeep at h
  cases q1 : toPy S x with
  | none => rw [q1] at h; cases h
  | some p =>
    rw [q1] at h
    cases q2 : toPy S y with
    | none => rw [q2] at h; cases h
    | some q =>
      rw [q2] at h
      cases q with
      | list ps =>
        obtain ⟨hc, hb⟩ := if_some (show (if (p.canLay0 && (PyData.canLayAll0 ps && decide (p.depth ≤ 60))) = true then some (ps.any fun z => PyData.eqv z p) else none) = some b from h)
        simp only [Bool.and_eq_true, decide_eq_true_eq] at hc
        exact ⟨p, ps, rfl, .inl rfl, hc.1, hc.2.1, hc.2.2, hb⟩
      | tuple ps =>
        obtain ⟨hc, hb⟩ := if_some (show (if (p.canLay0 && (PyData.canLayAll0 ps && decide (p.depth ≤ 60))) = true then some (ps.any fun z => PyData.eqv z p) else none) = some b from h)
        simp only [Bool.and_eq_true, decide_eq_true_eq] at hc
        exact ⟨p, ps, rfl, .inr rfl, hc.1, hc.2.1, hc.2.2, hb⟩
      | _ => cases h
theorem room60 {A : Around} {xs : List PyData} {d : PyData} (hd : d.depth ≤ 60) (hu : A.units + 64 < cLine) : A.units + 1 + min (PyData.depthAll xs) d.depth < cLine := by
  have h2 : min (PyData.depthAll xs) d.depth ≤ d.depth := Nat.min_le_right _ _
  omega
theorem opr_in (hs : SysOk X.base) (hu : X.A.units + 64 < cLine) : OpR X (compareOp .In) (rCm X.K .isIn) := by
  intro pins s σ H x y v u Q I rx ry h
  obtain ⟨m, S, dx, dy, b, rel, hx, hy, e, q⟩ := h
  have e : inS S dx dy = some b := e
  unfold inS at e
  split at e
  · rename_i b0 e0
    cases e
    obtain ⟨ys, e1, f1, f2, e2⟩ := in_cases e0
    obtain ⟨a, xs, e3, h1, h2⟩ := seq_rel rel hy e1
    obtain ⟨e4, f3⟩ := flat_V hx f1
    obtain ⟨e5, f4⟩ := flat_Vs h2 f2
    refine op_in_seq pins s σ H x y v u Q I rx ry ⟨a, xs, e3, h1, f3, f4, ?_⟩
    rw [if_neg Bool.false_ne_true, e4, e5, ← e2]
    exact q
  · obtain ⟨p, ps, e1, e2, c1, c2, c3, rfl⟩ := in_deep e
    obtain ⟨as, r1, _⟩ := reads_py hs I rel hx e1 rx
    rcases e2 with e2 | e2
    · obtain ⟨bs, r2, _⟩ := reads_py hs I rel hy e2 ry
      exact SeqAt.in_list_reads r2 r1 c2 c1 (room60 c3 hu) ⟨.bl _, H, I, rfl, q⟩
    · obtain ⟨bs, r2, _⟩ := reads_py hs I rel hy e2 ry
      exact SeqAt.in_tuple_reads r2 r1 c2 c1 (room60 c3 hu) ⟨.bl _, H, I, rfl, q⟩
theorem opr_notIn (hs : SysOk X.base) (hu : X.A.units + 64 < cLine) : OpR X (compareOp .NotIn) (rCm X.K .notIn) := by
  intro pins s σ H x y v u Q I rx ry h
  obtain ⟨m, S, dx, dy, b, rel, hx, hy, e, q⟩ := h
  have e : (inS S dx dy).map (fun b => !b) = some b := e
  cases e0 : inS S dx dy with
  | none => rw [e0] at e; cases e
  | some b0 =>
    rw [e0] at e
    cases e
    unfold inS at e0
    split at e0
    · rename_i b1 e3
      cases e0
      obtain ⟨ys, e1, f1, f2, e2⟩ := in_cases e3
      obtain ⟨a, xs, e3, h1, h2⟩ := seq_rel rel hy e1
      obtain ⟨e4, f3⟩ := flat_V hx f1
      obtain ⟨e5, f4⟩ := flat_Vs h2 f2
      refine op_notIn_seq pins s σ H x y v u Q I rx ry ⟨a, xs, e3, h1, f3, f4, ?_⟩
      rw [if_pos rfl, e4, e5, ← e2]
      exact q
    · obtain ⟨p, ps, e1, e2, c1, c2, c3, rfl⟩ := in_deep e0
      obtain ⟨as, r1, _⟩ := reads_py hs I rel hx e1 rx
      rcases e2 with e2 | e2
      · obtain ⟨bs, r2, _⟩ := reads_py hs I rel hy e2 ry
        exact SeqAt.notIn_list_reads r2 r1 c2 c1 (room60 c3 hu) ⟨.bl _, H, I, rfl, q⟩
      · obtain ⟨bs, r2, _⟩ := reads_py hs I rel hy e2 ry
        exact SeqAt.notIn_tuple_reads r2 r1 c2 c1 (room60 c3 hu) ⟨.bl _, H, I, rfl, q⟩
theorem vr_none {K : PySem.W.Frag} {d : D} {v : V} (h : VR K m H d v) : decide (v = .non) = isNonD d := by
  cases d with
  | non => have h : v = .non := h; subst h; rfl
  | bl b => have h : v = .bl b := h; subst h; rfl
  | int b => have h : v = .int b := h; subst h; rfl
  | str b => have h : v = .str b := h; subst h; rfl
  | tup _ => obtain ⟨a, _, e, _⟩ := h; subst e; rfl
  | frz _ => obtain ⟨a, _, e, _⟩ := h; subst e; rfl
  | ref _ => obtain ⟨a, e, _⟩ := h; subst e; rfl
theorem opr_isN : OpR X (compareOp .Is) (rCm X.K .isN) := by
  intro pins s σ H x y v u Q I rx ry h
  obtain ⟨m, S, dx, dy, b, rel, hx, hy, e, q⟩ := h
  cases dy with
  | non =>
    have hy : y = .non := hy
    have e : some (isNonD dx) = some b := by cases dx <;> exact e
    cases e
    refine op_isN pins s σ H x y v u Q I rx ry ⟨hy, ?_⟩
    rw [vr_none hx]; exact q
  | _ => cases dx <;> cases e
theorem opr_notN : OpR X (compareOp .IsNot) (rCm X.K .notN) := by
  intro pins s σ H x y v u Q I rx ry h
  obtain ⟨m, S, dx, dy, b, rel, hx, hy, e, q⟩ := h
  cases dy with
  | non =>
    have hy : y = .non := hy
    have e : some (!isNonD dx) = some b := by cases dx <;> exact e
    cases e
    refine op_notN pins s σ H x y v u Q I rx ry ⟨hy, ?_⟩
    rw [vr_none hx]; exact q
  | _ => cases dx <;> cases e
theorem opr_cm (hs : SysOk X.base) (hu : X.A.units + 64 < cLine) : ∀ c, OpR X (compareOp (oCm c)) (rCm X.K c)
  | .lt => opr_int op_lt fun S x y b h => by
    cases x with
    | int i => cases y with
      | int j => cases h; exact ⟨i, j, rfl, rfl, rfl⟩
      | _ => cases h
    | _ => cases y <;> cases h
  | .le => opr_int op_le fun S x y b h => by
    cases x with
    | int i => cases y with
      | int j => cases h; exact ⟨i, j, rfl, rfl, rfl⟩
      | _ => cases h
    | _ => cases y <;> cases h
  | .gt => opr_int op_gt fun S x y b h => by
    cases x with
    | int i => cases y with
      | int j => cases h; exact ⟨i, j, rfl, rfl, rfl⟩
      | _ => cases h
    | _ => cases y <;> cases h
  | .ge => opr_int op_ge fun S x y b h => by
    cases x with
    | int i => cases y with
      | int j => cases h; exact ⟨i, j, rfl, rfl, rfl⟩
      | _ => cases h
    | _ => cases y <;> cases h
  | .eq => opr_eq hs hu
  | .ne => opr_ne hs hu
  | .isN => opr_isN
  | .notN => opr_notN
  | .isIn => opr_in hs hu
  | .notIn => opr_notIn hs hu
end
end Mi

end
section
set_option Elab.async false
set_option linter.all false
set_option maxRecDepth 100000
set_option maxHeartbeats 4000000
/-! Built-in functions, places, slices. -/
namespace Mi
open PySem L2 PySem.Spec PyProof.Rows
/-- what is wanted behind a value that is told with a store -/
abbrev Fin' (K : PySem.W.Frag) (m : List Addr) (H : Hp) (d : D) (S' : Sto) (Q : VK) : Prop := ∀ v H' m', Ext K m H m' H' → Rel K m' S' H' → VR K m' H' d v → Q v H'
def rBi (K : PySem.W.Frag) (b : Bi) : List V → Hp → VK → Prop := fun vs H Q => ∃ m S ds d S', Rel K m S H ∧ VRs K m H ds vs ∧ biD S b ds = some (d, S') ∧ Fin' K m H d S' Q
def rIxM (K : PySem.W.Frag) : R2 := fun x y H Q => ∃ m S dx dy d, Rel K m S H ∧ VR K m H dx x ∧ VR K m H dy y ∧ ixD S dx dy = some d ∧ ∀ v, VR K m H d v → Q v H
def rSlM (K : PySem.W.Frag) : V → Option Int → Option Int → Hp → VK → Prop := fun x lo hi H Q => ∃ m S dx d S', Rel K m S H ∧ VR K m H dx x ∧ slcD S dx lo hi = some (d, S') ∧ Fin' K m H d S' Q
section
variable {X : Cx}
theorem map_some {α β : Type} {x : Option α} {f : α → β} {b : β} (h : x.map f = some b) : ∃ a, x = some a ∧ f a = b := by
  cases x with
  | none => cases h
  | some a => exact ⟨a, rfl, Option.some.inj h⟩
theorem bind_some {α β : Type} {x : Option α} {f : α → Option β} {b : β} (h : x.bind f = some b) : ∃ a, x = some a ∧ f a = some b := by
  cases x with
  | none => cases h
  | some a => exact ⟨a, rfl, h⟩
theorem seq_len {S : Sto} {z : Str} : seqAt S (.str z) = none := rfl
theorem cr_bi {f : Value} {b : Bi} {r : List V → Hp → VK → Prop} (hc : CallR X f r) (h : ∀ m S ds d S' vs H (Q : VK), Rel X.K m S H → VRs X.K m H ds vs → biD S b ds = some (d, S') → Fin' X.K m H d S' Q → r vs H Q) : CallR X f (rBi X.K b) := by
  intro pins s σ H xs us Q I r h1
  obtain ⟨m, S, ds, d, S', rel, hv, e, q⟩ := h1
  exact hc pins s σ H xs us Q I r (h m S ds d S' xs H Q rel hv e q)
theorem bi_len : CallR X (.builtin "len") (rBi X.K .len) := by
  intro pins s σ H xs us Q I r h1
  obtain ⟨m, S, ds, d, S', rel, hv, e, q⟩ := h1
  cases ds with
  | nil => cases e
  | cons x l =>
    cases l with
    | cons _ _ => cases x <;> cases e
    | nil =>
      obtain ⟨v, e1, h1⟩ := hv.one
      have gen : (seqAt S x).map (fun ys => (D.int ys.length, S)) = some (d, S') → wpAny (model X.prog X.w) X.A (call (.builtin "len") us) (EP X pins σ Q) X.xe s := fun e => by
        obtain ⟨ys, g1, g2⟩ := map_some e
        cases g2
        obtain ⟨a, ws, e3, h2, h3⟩ := seq_rel rel h1 g1
        refine call_len_seq pins s σ H xs us Q I r ⟨a, ws, by rw [e1, e3], h2, ?_⟩
        exact q _ H m Ext.refl rel (show _ = V.int _ by rw [h3.length])
      cases x with
      | str z =>
        obtain ⟨g1, g2⟩ := if_some (show (if z.length ≤ sizeLine then some (D.int z.length, S) else none) = some (d, S') from e)
        cases g2
        have h1 : v = .str z := h1
        exact call_len_str pins s σ H xs us Q I r ⟨z, by rw [e1, h1], g1, q _ H m Ext.refl rel rfl⟩
      | _ => exact gen e
theorem bi_int : CallR X (.type "int") (rBi X.K .int) := cr_bi call_int1 fun m S ds d S' vs H Q rel hv e q => by
  cases ds with
  | nil => cases e
  | cons x l =>
    cases l with
    | cons _ _ => cases x <;> cases e
    | nil =>
      obtain ⟨v, e1, h1⟩ := hv.one
      subst e1
      cases x with
      | int i => cases e; have h1 : v = .int i := h1; subst h1; exact .inl ⟨i, rfl, q _ H m Ext.refl rel rfl⟩
      | bl b => cases e; have h1 : v = .bl b := h1; subst h1; exact .inr ⟨b, rfl, q _ H m Ext.refl rel rfl⟩
      | _ => cases e
theorem bi_abs : CallR X (.builtin "abs") (rBi X.K .abs) := cr_bi call_abs fun m S ds d S' vs H Q rel hv e q => by
  cases ds with
  | nil => cases e
  | cons x l =>
    cases l with
    | cons _ _ => cases x <;> cases e
    | nil =>
      obtain ⟨v, e1, h1⟩ := hv.one
      subst e1
      cases x with
      | int i => cases e; have h1 : v = .int i := h1; subst h1; exact ⟨i, rfl, q _ H m Ext.refl rel rfl⟩
      | _ => cases e
theorem two_ints {S : Sto} {b : Bi} (f : Int → Int → Int) (hb : ∀ ds w, biD S b ds = some w → ∃ i j, ds = [.int i, .int j] ∧ w = (.int (f i j), S)) {m : List Addr} {H : Hp} {ds : List D} {vs : List V} {d : D} {S' : Sto} {Q : VK} {K : PySem.W.Frag}
    (rel : Rel K m S H) (hv : VRs K m H ds vs) (e : biD S b ds = some (d, S')) (q : Fin' K m H d S' Q) : ∃ i j, vs = [.int i, .int j] ∧ Q (.int (f i j)) H := by
  obtain ⟨i, j, e1, e2⟩ := hb ds _ e
  subst e1
  cases e2
  obtain ⟨v, w, e3, h1, h2⟩ := hv.two
  have h1 : v = .int i := h1
  have h2 : w = .int j := h2
  subst h1; subst h2
  exact ⟨i, j, e3, q _ H m Ext.refl rel rfl⟩
theorem bi_min (hc : X.calm = true) : CallR X (.builtin "min") (rBi X.K .min2) := cr_bi (call_min2 hc) fun m S ds d S' vs H Q rel hv e q => two_ints (b := .min2) (fun i j => if j < i then j else i) (fun ds w h => by
    unfold biD at h
    split at h <;> first | (cases h; exact ⟨_, _, rfl, rfl⟩) | (rename_i hh; cases hh) | cases h) rel hv e q
theorem bi_max (hc : X.calm = true) : CallR X (.builtin "max") (rBi X.K .max2) := cr_bi (call_max2 hc) fun m S ds d S' vs H Q rel hv e q => two_ints (b := .max2) (fun i j => if j > i then j else i) (fun ds w h => by
    unfold biD at h
    split at h <;> first | (cases h; exact ⟨_, _, rfl, rfl⟩) | (rename_i hh; cases hh) | cases h) rel hv e q
theorem bi_str : CallR X (.type "str") (rBi X.K .str) := cr_bi call_str_int fun m S ds d S' vs H Q rel hv e q => by
  cases ds with
  | nil => cases e
  | cons x l =>
    cases l with
    | cons _ _ => cases x <;> cases e
    | nil =>
      obtain ⟨v, e1, h1⟩ := hv.one
      subst e1
      cases x with
      | int i =>
        obtain ⟨g1, g2⟩ := if_some (show (if i.natAbs.log2 < 1920 then some (D.str (toString i), S) else none) = some (d, S') from e)
        cases g2
        have h1 : v = .int i := h1
        subst h1
        exact ⟨i, rfl, g1, q _ H m Ext.refl rel rfl⟩
      | _ => cases e
theorem one_lst {b : Bi} {S : Sto} {ds : List D} {w : D × Sto} (f : List D → Option (D × Sto)) (hb : ∀ r, biD S b [.ref r] = (lstAt S r).bind f) (hn : ∀ ds w, biD S b ds = some w → ∃ r, ds = [.ref r]) (h : biD S b ds = some w) :
    ∃ r xs, ds = [.ref r] ∧ S[r]? = some (.lst xs) ∧ f xs = some w := by
  obtain ⟨r, e⟩ := hn ds w h
  subst e
  rw [hb r] at h
  obtain ⟨xs, g1, g2⟩ := bind_some h
  exact ⟨r, xs, rfl, lstAt_some g1, g2⟩
theorem bi_all (hc : X.calm = true) : CallR X (.builtin "all") (rBi X.K .all) := cr_bi (cr_all hc) fun m S ds d S' vs H Q rel hv e q => by
  obtain ⟨r, xs, e1, g1, g2⟩ := one_lst (b := .all) (fun xs => (blsOf xs).map fun bs => (.bl (bs.all id), S)) (fun r => rfl) (fun ds w h => by
    unfold biD at h
    split at h <;> first | (exact ⟨_, rfl⟩) | (rename_i hh; cases hh) | cases h) e
  subst e1
  obtain ⟨v, e2, a, e3, h1⟩ := hv.one
  obtain ⟨bs, g3, g4⟩ := map_some g2
  cases g4
  obtain ⟨ws, h2, h3⟩ := rel.lst h1 g1
  subst e2 e3
  exact ⟨a, bs, rfl, SqL.of (by rw [h2, bls_rel h3 g3]), q _ H m Ext.refl rel rfl⟩
theorem bi_any (hc : X.calm = true) : CallR X (.builtin "any") (rBi X.K .any) := cr_bi (cr_any hc) fun m S ds d S' vs H Q rel hv e q => by
  obtain ⟨r, xs, e1, g1, g2⟩ := one_lst (b := .any) (fun xs => (blsOf xs).map fun bs => (.bl (bs.any id), S)) (fun r => rfl) (fun ds w h => by
    unfold biD at h
    split at h <;> first | (exact ⟨_, rfl⟩) | (rename_i hh; cases hh) | cases h) e
  subst e1
  obtain ⟨v, e2, a, e3, h1⟩ := hv.one
  obtain ⟨bs, g3, g4⟩ := map_some g2
  cases g4
  obtain ⟨ws, h2, h3⟩ := rel.lst h1 g1
  subst e2 e3
  exact ⟨a, bs, rfl, SqL.of (by rw [h2, bls_rel h3 g3]), q _ H m Ext.refl rel rfl⟩
theorem bi_sum (hc : X.calm = true) : CallR X (.builtin "sum") (rBi X.K .sum) := cr_bi (cr_sum hc) fun m S ds d S' vs H Q rel hv e q => by
  obtain ⟨r, xs, e1, g1, g2⟩ := one_lst (b := .sum) (fun xs => (intsOf xs).map fun is => (.int is.sum, S)) (fun r => rfl) (fun ds w h => by
    unfold biD at h
    split at h <;> first | (exact ⟨_, rfl⟩) | (rename_i hh; cases hh) | cases h) e
  subst e1
  obtain ⟨v, e2, a, e3, h1⟩ := hv.one
  obtain ⟨bs, g3, g4⟩ := map_some g2
  cases g4
  obtain ⟨ws, h2, h3⟩ := rel.lst h1 g1
  subst e2 e3
  exact ⟨a, bs, rfl, SqL.of (by rw [h2, ints_rel h3 g3]), q _ H m Ext.refl rel rfl⟩
theorem bi_lst : CallR X (.type "list") (rBi X.K .lst) := cr_bi call_list_of fun m S ds d S' vs H Q rel hv e q => by
  cases ds with
  | nil => cases e
  | cons x l =>
    cases l with
    | cons _ _ => cases x <;> cases e
    | nil =>
      obtain ⟨v, e1, h1⟩ := hv.one
      have e : (seqAt S x).map (fun ys => (D.ref S.length, S ++ [.lst ys])) = some (d, S') := by cases x <;> exact e
      obtain ⟨ys, g1, g2⟩ := map_some e
      cases g2
      obtain ⟨a, ws, e3, h2, h3⟩ := seq_rel rel h1 g1
      subst e1 e3
      refine ⟨a, ws, rfl, h2, fun l hl => ?_⟩
      obtain ⟨a1, a2, a3⟩ := new_lst rel hl h3
      exact q _ _ _ a1 a2 a3
/-- a new tuple: the store stays -/
theorem new_tup {K : PySem.W.Frag} {m : List Addr} {S : Sto} {H : Hp} {ds : List D} {vs : List V} {p : Addr} (rel : Rel K m S H) (hp : H p = none) (hv : VRs K m H ds vs) :
    Ext K m H m (upd H p (.tup vs)) ∧ Rel K m S (upd H p (.tup vs)) ∧ VR K m (upd H p (.tup vs)) (.tup ds) (.ref p) := by
  have e := Ext.new (o := .tup vs) rel hp [] (by simp)
  rw [List.append_nil] at e
  exact ⟨e, ⟨rel.len, rel.inj, fun n a o g1 g2 => OR.mono e (upd_ne fun z => rel.fresh hp (z ▸ List.mem_of_getElem? g1)) (rel.obj n a o g1 g2)⟩, p, vs, rfl, SqT.of upd_same, VRs.mono e _ _ hv⟩
theorem bi_tuple : CallR X (.type "tuple") (rBi X.K .tuple) := cr_bi call_tuple_of fun m S ds d S' vs H Q rel hv e q => by
  cases ds with
  | nil => cases e
  | cons x l =>
    cases l with
    | cons _ _ => cases x <;> cases e
    | nil =>
      obtain ⟨v, e1, h1⟩ := hv.one
      have e : (seqAt S x).map (fun ys => (D.tup ys, S)) = some (d, S') := by cases x <;> exact e
      obtain ⟨ys, g1, g2⟩ := map_some e
      cases g2
      obtain ⟨a, ws, e3, h2, h3⟩ := seq_rel rel h1 g1
      subst e1 e3
      refine ⟨a, ws, rfl, ?_⟩
      rcases h2 with h2 | h2
      · refine .inl ⟨h2, fun l hl => ?_⟩
        obtain ⟨a1, a2, a3⟩ := new_tup rel hl h3
        exact q _ _ _ a1 a2 a3
      · exact .inr ⟨h2, q _ H m Ext.refl rel ⟨a, ws, rfl, h2, h3⟩⟩
theorem depth_ref {f : Nat → Option PyData} {d : D} {p : PyData} (h : toPyW f d = some p) : True := trivial
theorem bi_repr (hs : SysOk X.base) (hg : X.A.guards = some []) (hu : X.A.units + 64 < cLine) : CallR X (.builtin "repr") (rBi X.K .repr) := by
  intro pins s σ H xs us Q I r h1
  obtain ⟨m, S, ds, d, S', rel, hv, e, q⟩ := h1
  cases ds with
  | nil => cases e
  | cons x l =>
    cases l with
    | cons _ _ => cases x <;> cases e
    | nil =>
      obtain ⟨v, e1, h1⟩ := hv.one
      subst e1
      obtain ⟨u, eu, ru⟩ := vals1 r
      subst eu
      have e : (reprD S x).map (fun z => (D.str z, S)) = some (d, S') := by cases x <;> exact e
      obtain ⟨z, g1, g2⟩ := map_some e
      cases g2
      obtain ⟨p, g3, g4⟩ := bind_some g1
      obtain ⟨⟨c1, c2, c3⟩, g5⟩ := if_some (show (if p.showable = true ∧ p.depth ≤ 40 ∧ p.shown.length ≤ sizeLine then some p.shown else none) = some z from g4)
      subst g5
      obtain ⟨as, rd, ns⟩ := reads_py hs I rel h1 g3 ru
      have fin : ∀ (h' : Heap) (t : Tok) (tk : Nat), (∀ b o, s.heap.get? b = some o → h'.get? b = some o) → EP X pins σ Q (.str p.shown t) { s with heap := h', toks := tk } := fun h' t tk k =>
        ⟨.str p.shown, H, I.kept k, ⟨t, rfl⟩, q _ H m Ext.refl rel rfl⟩
      cases rd with
      | none => exact PySem.P.repr_of_none (fin _ _ _ fun _ _ z => z)
      | bool b =>
        refine PySem.P.repr_of_bool ?_
        have e3 : (PyData.bool b).shown = (if b = true then Str.ofString "True" else Str.ofString "False") := by simp [PyData.shown]
        have := fin s.heap s.toks (s.toks + 1) fun _ _ z => z
        rw [e3] at this
        exact this
      | int i t =>
        have hi : i.natAbs.log2 < 1920 := by simpa [PyData.showable] using c1
        refine PySem.P.repr_of_int hi ?_
        have := fin s.heap s.toks (s.toks + 1) fun _ _ z => z
        simpa [PyData.shown] using this
      | str y t =>
        have e3 : (PyData.str y).shown = reprText y := by simp [PyData.shown]
        refine PySem.P.repr_of_str ?_ (by rw [← e3]; exact c3)
        have := fin s.heap s.toks (s.toks + 1) fun _ _ z => z
        rw [e3] at this
        exact this
      | list a1 a2 a3 a4 => exact repr_of_reads' (.list a1 a2 a3 a4) c1 (fun _ => ns) hg (by omega) (fun _ _ z => z) (fun h' t tk k => fin h' t tk k) c3
      | tuple a1 a2 a3 a4 => exact repr_of_reads' (.tuple a1 a2 a3 a4) c1 (fun _ => ns) hg (by omega) (fun _ _ z => z) (fun h' t tk k => fin h' t tk k) c3
      | dict a1 a2 a3 a4 a5 => exact repr_of_reads' (.dict a1 a2 a3 a4 a5) c1 (fun _ => ns) hg (by omega) (fun _ _ z => z) (fun h' t tk k => fin h' t tk k) c3
/-! ### places -/
theorem at_rel {K : PySem.W.Frag} {m : List Addr} {H : Hp} {ds : List D} {vs : List V} {i : Int} {d : D} (h : VRs K m H ds vs) (e : atI ds i = some d) : ∃ v, atI vs i = some v ∧ VR K m H d v := by
  unfold atI at e ⊢
  rw [h.length]
  obtain ⟨j, g1, g2⟩ := bind_some e
  obtain ⟨v, g3, g4⟩ := h.get g2
  exact ⟨v, by rw [g1]; exact g3, g4⟩
theorem ix_mi : IxR X (rIxM X.K) := by
  intro value slice pins s σ H x y v u Q I rx ry h hsub
  obtain ⟨m, S, dx, dy, d, rel, hx, hy, e, q⟩ := h
  cases dy with
  | int i =>
    have hy : y = .int i := hy
    subst hy
    have gen : (seqAt S dx).bind (fun xs => atI xs i) = some d → wpAny (model X.prog X.w) X.A (subscriptTail value slice v u) (EP X pins σ Q) X.xe s := fun e => by
      obtain ⟨ys, g1, g2⟩ := bind_some e
      obtain ⟨a, ws, e3, h2, h3⟩ := seq_rel rel hx g1
      obtain ⟨z, g3, g4⟩ := at_rel h3 g2
      subst e3
      rcases h2 with h2 | h2
      · exact ix_seq value slice pins s σ H _ _ v u Q I rx ry (.inl ⟨a, ws, i, z, rfl, rfl, h2, g3, q z g4⟩) hsub
      · exact ix_seq value slice pins s σ H _ _ v u Q I rx ry (.inr (.inl ⟨a, ws, i, z, rfl, rfl, h2, g3, q z g4⟩)) hsub
    cases dx with
    | str z =>
      have hx : x = .str z := hx
      subst hx
      obtain ⟨g1, g2⟩ : z.length ≤ sizeLine ∧ (atI z.cps.toList i).map (fun c => D.str ⟨#[c]⟩) = some d := by
        have e : (if z.length ≤ sizeLine then (atI z.cps.toList i).map (fun c => D.str ⟨#[c]⟩) else none) = some d := e
        split at e
        · rename_i hz; exact ⟨hz, e⟩
        · cases e
      obtain ⟨c, g3, g4⟩ := map_some g2
      subst g4
      exact ix_seq value slice pins s σ H _ _ v u Q I rx ry (.inr (.inr ⟨z, i, c, rfl, rfl, g1, g3, q _ rfl⟩)) hsub
    | _ => exact gen e
  | _ => cases dx <;> cases e
/-! ### slices -/
theorem sl_mi : SlR X (rSlM X.K) := by
  intro pins s σ H x v vl vu lo hi sl Q I rx hs pl pu h
  obtain ⟨m, S, dx, d, S', rel, hx, e, q⟩ := h
  cases dx with
  | tup ds =>
    cases e
    obtain ⟨a, xs, e1, h1, h2⟩ := hx
    refine sl_tupA pins s σ H x v vl vu lo hi sl Q I rx hs pl pu ⟨a, xs, e1, h1, fun hw => ?_, fun hw p hp => ?_⟩
    · refine q _ H m Ext.refl rel ⟨a, xs, rfl, h1, ?_⟩
      have hl := h2.length
      have : cutD ds lo hi = ds := by
        unfold cutD
        rw [← hl, hw.1, hw.2]
        simp [hl]
      rw [this]; exact h2
    · obtain ⟨a1, a2, a3⟩ := new_tup rel hp (cut_rel h2 lo hi)
      exact q _ _ _ a1 a2 a3
  | frz ds =>
    cases e
    obtain ⟨a, xs, e1, h1, h2⟩ := hx
    refine sl_list pins s σ H x v vl vu lo hi sl Q I rx hs pl pu ⟨a, xs, e1, h1.sql, fun p hp => ?_⟩
    obtain ⟨a1, a2, a3⟩ := new_lst rel hp (cut_rel h2 lo hi)
    exact q _ _ _ a1 a2 a3
  | ref n =>
    have e : (lstAt S n).map (fun xs => (D.ref S.length, S ++ [.lst (cutD xs lo hi)])) = some (d, S') := e
    obtain ⟨ds, g1, g2⟩ := map_some e
    cases g2
    obtain ⟨a, e1, h1⟩ := hx
    obtain ⟨xs, h2, h3⟩ := rel.lst h1 (lstAt_some g1)
    refine sl_list pins s σ H x v vl vu lo hi sl Q I rx hs pl pu ⟨a, xs, e1, SqL.of h2, fun p hp => ?_⟩
    obtain ⟨a1, a2, a3⟩ := new_lst rel hp (cut_rel h3 lo hi)
    exact q _ _ _ a1 a2 a3
  | _ => cases e
end
end Mi

end
section
set_option Elab.async false
set_option linter.all false
set_option maxRecDepth 100000
set_option maxHeartbeats 400000
/-! Calls of the text's defs, from where no repr runs. -/
namespace Mi
open PySem L2 PySem.Spec PyProof.Rows
structure FnG (P : Program) (w : World) (K : PySem.W.Frag) (mg : Str → Option Value) (base : Heap) (k : Nat) (f : Addr) (fd : FuncData) (ps : List Str) (sp : Sp) : Prop where
  lens : ∀ vs H Q E, sp vs H Q E → vs.length = ps.length
  goes : ∀ (A : Around) (out : List Env) (s : Shared) (H : Hp) (us : List Value) (vs : List V) (Q : VK) (E : XK), A.guards = some [] → Room k A → Env0 P w K mg base A out s H →
    BindsTo s fd ⟨us, []⟩ (ps.zip us) → Vals vs us → sp vs H Q E → codeAny (model P w) A (.call (.ref f) ⟨us, []⟩) (CR (L2.CX P w) out P w H s Q E) s
theorem FnG.up {P : Program} {w : World} {K : PySem.W.Frag} {mg : Str → Option Value} {base : Heap} {j k : Nat} {f : Addr} {fd : FuncData} {ps : List Str} {sp : Sp} (F : FnG P w K mg base j f fd ps sp) (h : j ≤ k) : FnG P w K mg base k f fd ps sp :=
  ⟨F.lens, fun A out s H us vs Q E hg hr => F.goes A out s H us vs Q E hg (hr.mono h)⟩
section
variable {X : Cx} {k : Nat} {f : Addr} {fd : FuncData} {ps : List Str} {sp : Sp} {E : XK} {x : Str} {p pos : Pos} {e : Expr} {es : List Expr} {t : TA}
theorem goG {pins : List (Addr × Obj)} {σ : L2.St} {H : Hp} {s : Shared} {Q : VK} {us : List Value} {vs : List V} (F : FnG X.prog X.w X.K X.mg X.base k f fd ps sp) (hg : X.A.guards = some []) (hr : Room k X.A) (hb : Binds X.K fd ps [])
    (hx : Passes (L2.CX X.prog X.w) X E) (I : L2.Inv X pins σ H s) (r : Vals vs us) (h : sp vs H Q E) : wpAny (model X.prog X.w) X.A (call (.ref f) us) (EP X pins σ Q) X.xe s := by
  have hl : us.length = ps.length := by rw [← r.length]; exact F.lens _ _ _ _ h
  have bd : BindsTo s fd ⟨us, []⟩ (ps.zip us) := by
    have z := hb s us I.kIn (by rw [List.append_nil]; exact hl)
    rw [List.append_nil] at z
    exact z
  refine wpAny_call (codeAny_mono (F.goes X.A X.stack s H us vs Q E hg hr I.env0 bd r h) ?_)
  intro res s2 hq
  cases res with
  | error err => exact hx pins σ H s err s2 I hq
  | ok fl =>
    cases fl with
    | ret u => exact I.after hq
    | next => exact False.elim hq
    | brk => exact False.elim hq
    | cont => exact False.elim hq
theorem pe_callM (F : FnG X.prog X.w X.K X.mg X.base k f fd ps sp) (hgd : X.A.guards = some []) (hr : Room k X.A) (hg : Gl X x) (hm : X.mg x = some (.ref f)) (hk : PySem.W.keepIn X.K (.ref f) = true) (hb : Binds X.K fd ps [])
    (hx : Passes (L2.CX X.prog X.w) X E) (ha : PA X (e :: es) t) (hdb : (x == ("__debug__" : Str)) = false) (he : starEach (e :: es) X.env = (false, eval e X.env) :: starEach es X.env)
    (hpl : (backTo pos (starEach es X.env)).any (·.1) = false) : PE X (.Call (.Name x p) (e :: es) [] pos) (tCall sp [] E t) := by
  constructor
  intro pins s σ H Q I h
  refine wpAny_Call_Name_kw (ld_glob I hg hm (PySem.W.callWith_K (h₀ := X.base) I.ok.mod.kin hk (thn (ha.run pos pins s σ H _ I h) ?_) he hpl) hdb)
  intro us s1 ⟨vs, H1, I1, r, q⟩
  refine ⟨I1.kIn, goG F hgd hr hb hx I1 r ?_⟩
  have q : sp (vs ++ []) H1 Q E := q
  rw [List.append_nil] at q
  exact q
end
/-- a def's promise, by its body -/
theorem fnG_of {P : Program} {w : World} {K : PySem.W.Frag} {mg : Str → Option Value} {base : Heap} {k : Nat} {f : Addr} {nm qual : Str} {prm : Arguments} {body : List Stmt} {sc : Scope} {fd : FuncData} {N ps : List Str} {sp : Sp}
    (F : FunD K nm qual prm body sc [] [] f fd) (S : FnScope N ps sc) (lens : ∀ vs H Q E, sp vs H Q E → vs.length = ps.length)
    (hb : ∀ (cd : Value) (A : Around) (out : List Env) (s : Shared) (H : Hp) (vs : List V) (Q : VK) (E : XK), A.guards = some [] → Room k (A.deeper (envOfC qual sc s.heap.objs.size f cd)) → sp vs H Q E →
      ∃ t, PSs (cxOf (L2.CX P w) P w K mg base N qual sc f cd A out s H E) body t ∧ t { nx := fun _ H' => Q .non H', rt := Q } (L2.start N vs) H) : FnG P w K mg base (k + 1) f fd ps sp := by
  obtain ⟨oc, od, dV, kV, doc, pm, an, cd, ct, osl, efd, lk, hcd, _, _⟩ := F.ex
  refine ⟨lens, ?_⟩
  intro A out s H us vs Q E hg hr e0 bd r hsp
  subst efd
  have hl := lens _ _ _ _ hsp
  have KX : K.In s.heap := e0.mod.kin.keeps fun b o e => (e0.bs b o e).1
  have lim : s.heap.NoLimit := e0.mod.nolimit.keeps fun b o e => (e0.bs b o e).1
  have kd : ∀ y ∈ ps.zip us, sc.names.lookup y.1 = some .local ∨ (sc.names.lookup y.1 = some .cell ∧ ((cellsFrom (s.heap.objs.size + 1) sc.names []).lookup y.1).isSome = true) := by
    intro y hy
    have hm : y.1 ∈ ps := (List.of_mem_zip (a := y.1) (b := y.2) hy).1
    exact (S.par y.1 hm).imp id fun q => ⟨q, PySem.W.cellsFrom_some _ _ _ (.inl q)⟩
  refine codeAny_call_function hr.depth (KX _ _ lk) rfl S.co S.gen rfl (PySem.W.codeRec_of KX hcd) (bd _ _ _ _ (wpAny_newFunctionEnv_cells S.kind kd ?_))
  intro env he s1 x
  subst he
  refine ⟨lim.keeps x.toInCall.keep, codeAny_func ?_⟩
  obtain ⟨t, ht, hq⟩ := hb cd A out s H vs Q E hg (hr.deeper _) hsp
  have I := inv_start (CX := L2.CX P w) (mg := mg) (qual := qual) (E := E) S hr.hd e0 hl r x
  have fin : ∀ {s2 : Shared} {σ2 : L2.St} {H2 : Hp} {v : V} {u : Value}, L2.Inv (cxOf (L2.CX P w) P w K mg base N qual sc f cd A out s H E) [] σ2 H2 s2 → RelV v u → Q v H2 → CE out P w H s Q u s2 :=
    fun {s2 σ2 H2 v u} J rv q => ⟨v, H2, J.os, J.bare, J.base, J.hok, rv, q⟩
  refine wpAny_mono (ht.run [] s1 (L2.start N vs) H _ I hq) ?_ fun _ _ z => z
  intro fl s2 hs
  cases fl with
  | ret u => exact hs.elim fun v hs => hs.elim fun σ2 hs => hs.elim fun H2 hs => fin hs.1 hs.2.1 hs.2.2
  | next => exact hs.elim fun σ2 hs => hs.elim fun H2 hs => fin (v := V.non) (u := Value.none) hs.1 rfl hs.2
  | brk => exact hs.elim fun σ2 hs => hs.elim fun H2 hs => hs.2.elim
  | cont => exact hs.elim fun σ2 hs => hs.elim fun H2 hs => hs.2.elim
/-- the law's call -/
theorem law_callG {P : Program} {w : World} {K : PySem.W.Frag} {mg mb : Str → Option Value} {k : Nat} {fa a : Addr} {fd : FuncData} {x : Str} {sp : Sp} {s₁ : Shared} {vs : List Value} {ns : List Int} (KX : K.In s₁.heap) (hns : s₁.heap.Ns mainGlobals mg)
    (hb : s₁.heap.Ns builtinsNs mb) (hbb : ∀ y : Str, y ≠ "__name__" → mb y = bootBuiltins y) (hlim : s₁.heap.NoLimit) (hgn : s₁.gens = #[]) (ha : s₁.heap.get? a = some { cls := .type "list", data := .seq vs.toArray }) (hi : IntsAre vs ns)
    (hl : ns.length ≤ sizeLine) (hr : Room k callerA) (hsys : SysOk s₁.heap) (F : ∀ base : Heap, SysOk base → K.In base → base.Ns mainGlobals mg → FnG P w K mg base k fa fd [x] sp) (hbind : ∀ (s : Shared) (u : Value), BindsTo s fd ⟨[u], []⟩ [(x, u)])
    (hsp : ∀ H : Hp, FzL K H a (ns.map V.int) → sp [.ref a] H (fun v _ => v = .bl true) fun _ _ _ => False) :
    codeAny (model P w) callerA (.call (.ref fa) ⟨[.ref a], []⟩) (fun r s' => r = .ok (.ret (.bool true)) ∧ OldK s₁.heap s'.heap ∧ s'.os = s₁.os ∧ AllBare s'.gens) s₁ := by
  have rv := vals_ints hi
  have lenV := hi.length
  have nsys : a ≠ sysModules := by
    intro e
    obtain ⟨o, h1, h2⟩ := hsys
    rw [e, h1] at ha
    cases ha
    have h2 : Value.type "list" = Value.type "dict" := h2
    exact absurd h2 (by decide)
  have main : ∀ H : Hp, Only H → FzL K H a (ns.map V.int) → HOk P w H s₁.heap → (∀ b, H b ≠ none → b = a) → (H a ≠ none → K.lookup a = none) →
      codeAny (model P w) callerA (.call (.ref fa) ⟨[.ref a], []⟩) (fun r s' => r = .ok (.ret (.bool true)) ∧ OldK s₁.heap s'.heap ∧ s'.os = s₁.os ∧ AllBare s'.gens) s₁ := by
    intro H hO hS hok hA hK
    have at_none : ∀ {b : Addr}, b ≠ a → H b = none := fun {b} nb => by
      cases q : H b with
      | none => rfl
      | some u => exact absurd (hA b (by rw [q]; exact Option.some_ne_none u)) nb
    have bof : ∀ {b : Addr} {o : Obj}, s₁.heap.get? b = some o → H b = none → (hidT s₁.heap H).get? b = some o := fun e n => hidT_get e n
    have nsB : ∀ {b : Addr} {m : Str → Option Value}, s₁.heap.Ns b m → (hidT s₁.heap H).Ns b m := by
      intro b m ⟨o, es, ep, e, d, r⟩
      refine ⟨o, es, ep, bof e (at_none ?_), d, r⟩
      intro z
      subst z
      rw [ha] at e
      cases e
      cases (show Data.seq vs.toArray _ = Data.dict es ep from d)
    have hKb : K.In (hidT s₁.heap H) := by
      intro b o e
      refine bof (KX b o e) ?_
      cases q : H b with
      | none => rfl
      | some u =>
        have eb : b = a := hA b (by rw [q]; exact Option.some_ne_none u)
        have := hK (by rw [← eb, q]; exact Option.some_ne_none u)
        rw [← eb, e] at this
        cases this
    have hsb : SysOk (hidT s₁.heap H) := by
      obtain ⟨o, h1, h2⟩ := hsys
      exact ⟨o, bof h1 (at_none fun z => nsys z.symm), h2⟩
    have hM : Mod K mg (hidT s₁.heap H) := by
      obtain ⟨mc, h1, h2⟩ := hlim
      exact ⟨hKb, nsB hns, ⟨mb, nsB hb, hbb⟩, mc, nsB h1, h2⟩
    have e0 : Env0 P w K mg (hidT s₁.heap H) callerA [] s₁ H := ⟨rfl, hM, fun b o e => of_hidT e, Nat.le_of_eq (hidT_size _ _), trivial, (fun b hb => nomatch (show b ∈ ([] : List Addr) from hb)), hok, .of_eq hgn⟩
    refine codeAny_mono ((F _ hsb hKb (nsB hns)).goes callerA [] s₁ H [.ref a] [.ref a] _ _ rfl hr e0 (hbind s₁ (.ref a)) (.cons rfl .nil) (hsp H hS)) ?_
    intro r s2 h
    match r, h with
    | .error err, ⟨_, _, _, _, _, _, _, _, _, _, _, _, z⟩ => exact z.elim
    | .ok (.ret u), ⟨v, H2, os, bare, un, hok2, r2, q⟩ =>
      have q : v = .bl true := q
      subst q
      have r2 : u = Value.bool true := r2
      subst r2
      refine ⟨rfl, OldK.of_keep fun b o e => ?_, os, bare⟩
      cases q : H b with
      | none => exact un.keep b o e q (fun z => nomatch (show b ∈ ([] : List Addr) from z)) (fun z => nomatch z)
      | some u =>
        rcases hO b with z | ⟨ob, xs, z⟩
        · rw [q] at z; cases z
        · obtain ⟨e1, _⟩ := hok b _ z
          obtain ⟨e2, _⟩ := hok2 b _ (un.frzs b ob _ z)
          rw [e] at e1
          cases e1
          exact e2
  cases hk : K.lookup a with
  | some o =>
    have e := KX a o hk
    rw [ha] at e
    cases e
    refine main (fun _ => none) (fun _ => .inl rfl) (.inr (.inr ⟨_, vs.toArray, _, hk, rfl, rfl, rfl, by rw [List.size_toArray, lenV]; exact hl, by simpa using rv⟩)) (fun b u z => (nomatch (show (none : Option HO) = some u from z))) (fun b z => absurd rfl z) fun z => absurd rfl z
  | none =>
    have hat : ∀ b u, (if b = a then some (HO.frz { cls := .type "list", data := .seq vs.toArray } (.lst (ns.map V.int))) else none) = some u → b = a ∧ u = HO.frz { cls := .type "list", data := .seq vs.toArray } (.lst (ns.map V.int)) := by
      intro b u z
      split at z
      · rename_i hb'; cases z; exact ⟨hb', rfl⟩
      · cases z
    refine main (fun b => if b = a then some (.frz { cls := .type "list", data := .seq vs.toArray } (.lst (ns.map V.int))) else none) ?_ (.inl ⟨_, if_pos rfl⟩) ?_ ?_ fun _ => hk
    · intro b
      by_cases hb' : b = a
      · exact .inr ⟨_, _, if_pos hb'⟩
      · exact .inl (if_neg hb')
    · intro b u z
      obtain ⟨e1, e2⟩ := hat b u z
      subst e1 e2
      exact ⟨ha, by rw [List.length_map]; exact hl, vs, _, rv, ha⟩
    · intro b z
      by_cases hb' : b = a
      · exact hb'
      · exact absurd (if_neg hb') z
/-- a law, from its def's promise -/
theorem walk_G {l : PySem.W.OpenLaw} {n k : Nat} {q : Program} {loose : List Str} {XP : (Str → Option Value) → Heap → Prop} {YP : World → Heap → Prop} {d : DefRec} {x : Str} (hn : l.most = some n) (hn2 : n ≤ sizeLine) (hdf : d.params.defaults = []) (hr : Room k callerA)
    (F : ∀ (w : World) (mg : Str → Option Value) (fa : Addr) (h : Heap), YP w h → h.Ns mainGlobals mg → mg d.name = some (.ref fa) → ∃ (K : PySem.W.Frag) (fd : FuncData) (sp : Sp), K.In h ∧ SysOk h ∧ (∀ (s : Shared) (u : Value), BindsTo s fd ⟨[u], []⟩ [(x, u)]) ∧
      (∀ (H : Hp) (a : Addr) (ns : List Int), ns.length ≤ n → FzL K H a (ns.map V.int) → sp [.ref a] H (fun v _ => v = .bl true) fun _ _ _ => False) ∧
      ∀ base : Heap, SysOk base → K.In base → base.Ns mainGlobals mg → FnG l.prog w K mg base k fa fd [x] sp) :
    PySem.W.WalkO q loose XP YP l.row.toRowW d [] (fun f vs => PySem.call f vs) := by
  refine Att.attach_call hn hdf ?_
  intro w s₀ s₁ mg mb fa o pm cd doc a vs ns G Y ho hd hcd hmg hobj hints hlen hg
  obtain ⟨K, fd, sp, KX, sy, hb, hsp, hF⟩ := F w mg fa _ Y G.T.g hmg
  exact law_callG KX G.T.g G.T.b G.T.builtins G.T.nolimit hg hobj hints (Nat.le_trans hlen hn2) hr sy hF hb fun H hS => hsp H a ns hlen hS
end Mi

end
section
set_option Elab.async false
set_option linter.all false
set_option maxRecDepth 100000
set_option maxHeartbeats 1000000
/-! Expressions: the text's own, checked against the small language. -/
namespace Mi
open PySem L2 PySem.Spec PyProof.Rows
/-- what is fixed through a law -/
structure Gm where
  P : Program
  w : World
  K : PySem.W.Frag
  mg : Str → Option Value
  base : Heap
  CA : List Addr
  Gn : List (Str × D)
  W : Nat
  T : List Fd
def Gm.G (Γ : Gm) : List D := Γ.Gn.map (·.2)
def Gm.cal (Γ : Gm) (n : Nat) : Cal := calF Γ.G Γ.W Γ.T n
def valueS : Str := "value"
/-- an error as it lies -/
def Gm.XR (Γ : Gm) : List Addr → Hp → Value → Option Addr → Nat → D → Prop := fun m H cls d c dv => ∃ C a v, Γ.CA[c]? = some C ∧ cls = .ref C ∧ d = some a ∧ H a = some (.xd [(valueS, v)]) ∧ VR Γ.K m H dv v
def Gm.sp (Γ : Gm) (n f : Nat) : Sp := fun vs H Q E => ∃ m S ds r, Rel Γ.K m S H ∧ VRs Γ.K m H ds vs ∧ Γ.cal n f ds S = some r ∧ Post Γ.K Γ.XR E (VR Γ.K) m H r Q
def Gm.Calls (Γ : Gm) (n : Nat) : Prop := ∀ (f : Nat) (F : Fd), Γ.T[f]? = some F → ∃ a fd ps, Γ.mg F.name = some (.ref a) ∧ PySem.W.keepIn Γ.K (.ref a) = true ∧ Binds Γ.K fd ps [] ∧ ps.length = F.np ∧ FnG Γ.P Γ.w Γ.K Γ.mg Γ.base n a fd ps (Γ.sp n f)
def freeNames : List Str := ["len", "int", "min", "max", "abs", "isinstance", "repr", "str", "all", "any", "sum", "list", "tuple", "set", "sorted", "range", "bool", "dict"]
structure Gm.Facts (Γ : Gm) : Prop where
  sys : SysOk Γ.base
  con : ∀ (k : Nat) (x : Str) (d : D), Γ.Gn[k]? = some (x, d) → flat d = true ∧ ∃ u, Γ.mg x = some u ∧ RelV (fV d) u
  free : ∀ x ∈ freeNames, Γ.mg x = none
/-- where an expression stands -/
structure Good (Γ : Gm) (n : Nat) (N : List Str) (sc : Scope) (X : Cx) : Prop where
  prog : X.prog = Γ.P
  w : X.w = Γ.w
  K : X.K = Γ.K
  mg : X.mg = Γ.mg
  base : X.base = Γ.base
  N : X.N = N
  calm : X.calm = true
  room : Room n X.A
  grd : X.A.guards = some []
  kd : ∀ x k, sc.names.lookup x = some k → X.env.scope.names.lookup x = some k ∨ (k = .free ∧ X.env.scope.names.lookup x = some .cell)
  fn : ∀ x, sc.names.lookup x = some .local ∨ sc.names.lookup x = some .cell → X.fn x = true ∨ X.env.scope.names.lookup x = some .local
def isVis : Option NameKind → Bool
  | some .local => true
  | some .cell => true
  | some .free => true
  | _ => false
def isGlb : Option NameKind → Bool
  | some .globalImplicit => true
  | _ => false
def isOwn : Option NameKind → Bool
  | some .local => true
  | some .cell => true
  | _ => false
def plainN (x : Str) : Bool := !(x == ("__debug__" : Str)) && !(x == ("__classdict__" : Str)) && !(x == ("__name__" : Str))
def isStar : Expr → Bool
  | .Starred _ _ => true
  | _ => false
def isSetE : Expr → Bool
  | .Set _ _ _ => true
  | _ => false
def isSlcE : Expr → Bool
  | .Slice _ _ _ _ => true
  | _ => false
section
variable {Γ : Gm} {n : Nat} {N : List Str} {sc : Scope} {X : Cx}
theorem plain_ne {x : Str} (h : plainN x = true) : (x == ("__debug__" : Str)) = false ∧ (x == ("__classdict__" : Str)) = false ∧ x ≠ "__name__" := by
  unfold plainN at h
  simp only [Bool.and_eq_true, Bool.not_eq_true', beq_eq_false_iff_ne] at h
  exact ⟨beq_eq_false_iff_ne.mpr h.1.1, beq_eq_false_iff_ne.mpr h.1.2, h.2⟩
theorem Good.vis (g : Good Γ n N sc X) {x : Str} (h : isVis (sc.names.lookup x) = true) : Vis X.env.scope x := by
  cases q : sc.names.lookup x with
  | none => rw [q] at h; cases h
  | some k =>
    rcases g.kd x k q with e | ⟨e1, e2⟩
    · rw [q] at h
      unfold Vis
      rw [e]
      cases k <;> first | exact .inl rfl | exact .inr (.inl rfl) | exact .inr (.inr rfl) | cases h
    · exact .inr (.inl e2)
theorem Good.gl (g : Good Γ n N sc X) {x : Str} (h : isGlb (sc.names.lookup x) = true) : Gl X x := by
  cases q : sc.names.lookup x with
  | none => rw [q] at h; cases h
  | some k =>
    rw [q] at h
    cases k <;> first | cases h | skip
    rcases g.kd x _ q with e | ⟨e1, _⟩
    · exact e
    · cases e1
theorem Good.loc (g : Good Γ n N sc X) {x : Str} (h : isOwn (sc.names.lookup x) = true) : L2.Loc X.env.scope x ∧ (X.fn x = true ∨ X.env.scope.names.lookup x = some .local) := by
  cases q : sc.names.lookup x with
  | none => rw [q] at h; cases h
  | some k =>
    rw [q] at h
    cases k <;> first | cases h | skip
    · refine ⟨?_, g.fn x (.inl q)⟩
      rcases g.kd x _ q with e | ⟨e1, _⟩
      · exact .inl e
      · cases e1
    · refine ⟨?_, g.fn x (.inr q)⟩
      rcases g.kd x _ q with e | ⟨e1, _⟩
      · exact .inr e
      · cases e1
theorem Good.units (g : Good Γ n N sc X) : X.A.units + 64 < cLine := g.room.units
/-- an expression's reading, whatever stands around -/
abbrev PEs (Γ : Gm) (n : Nat) (N : List Str) (sc : Scope) (E : XK) (pe : Expr) (t : TE) : Prop := ∀ X, Good Γ n N sc X → Passes (L2.CX Γ.P Γ.w) X E → PE X pe t
abbrev PTs' (Γ : Gm) (n : Nat) (N : List Str) (sc : Scope) (E : XK) (pe : Expr) (t : TT) : Prop := ∀ X, Good Γ n N sc X → Passes (L2.CX Γ.P Γ.w) X E → PT X pe t
/-- an expression is shown -/
def SndE (Γ : Gm) (n : Nat) (N : List Str) (sc : Scope) (pe : Expr) (f : Loc → Sto → Option (R D)) : Prop := ∀ E : XK, ∃ t, PEs Γ n N sc E pe t ∧ RefE Γ.K Γ.XR E t f
def SndT (Γ : Gm) (n : Nat) (N : List Str) (sc : Scope) (pe : Expr) (f : Loc → Sto → Option (R Bool)) : Prop := ∀ E : XK, ∃ t, PTs' Γ n N sc E pe t ∧ RefT Γ.K Γ.XR E t f
/-- expressions whose truth is their value's -/
def plainT : Expr → Bool
  | .UnaryOp .Not _ _ => false
  | .BoolOp _ _ _ => false
  | .IfExp _ _ _ _ => false
  | .Compare _ _ _ _ => false
  | _ => true
theorem isTrue_of_plain {pe : Expr} (h : plainT pe = true) (env : Env) (whole : Sem Value) : isTrue pe env whole = (do let v ← whole; standAt pe.pos; holding [v] (truthy v)) := by
  cases pe with
  | UnaryOp op x p => cases op <;> first | rfl | cases h
  | BoolOp op x p => cases h
  | IfExp a b c p => cases h
  | Compare a b c p => cases h
  | _ => rfl
theorem SndE.test {pe : Expr} {f : Loc → Sto → Option (R D)} (h : SndE Γ n N sc pe f) (hp : plainT pe = true) : SndT Γ n N sc pe (fun ρ S => tst (f ρ S)) := fun E => by
  obtain ⟨t, h1, h2⟩ := h E
  exact ⟨tB t, fun X g hx => pt_val (h1 X g hx) (isTrue_of_plain hp X.env), ref_test h2⟩
theorem snd_var {i : Nat} {x : Str} {pos : Pos} (hN : N[i]? = some x) (hv : isVis (sc.names.lookup x) = true) (hp : plainN x = true) : SndE Γ n N sc (.Name x pos) (fun ρ S => match ρ[i]? with | some (some d) => some (.ok d S) | _ => none) := fun E =>
  ⟨tVar i, fun X g _ => pe_var (by rw [g.N]; exact hN) (g.vis hv) (plain_ne hp).1 (plain_ne hp).2.1, ref_var⟩
theorem snd_int {i : Int} {j : Nat} {pos : Pos} : SndE Γ n N sc (.Constant (.int i) j pos) (fun _ S => some (.ok (.int i) S)) := fun E => ⟨_, fun X _ _ => pe_int, ref_c fun _ _ => rfl⟩
theorem snd_bl {b : Bool} {j : Nat} {pos : Pos} : SndE Γ n N sc (.Constant (.bool b) j pos) (fun _ S => some (.ok (.bl b) S)) := fun E => ⟨_, fun X _ _ => pe_bl, ref_c fun _ _ => rfl⟩
theorem snd_non {j : Nat} {pos : Pos} : SndE Γ n N sc (.Constant .none j pos) (fun _ S => some (.ok .non S)) := fun E => ⟨_, fun X _ _ => pe_non, ref_c fun _ _ => rfl⟩
theorem snd_str {x : Str} {j : Nat} {pos : Pos} : SndE Γ n N sc (.Constant (.str x) j pos) (fun _ S => some (.ok (.str x) S)) := fun E => ⟨_, fun X _ _ => pe_str, ref_c fun _ _ => rfl⟩
theorem snd_glb (F : Γ.Facts) {k : Nat} {x : Str} {d : D} {pos : Pos} (hk : Γ.Gn[k]? = some (x, d)) (hg : isGlb (sc.names.lookup x) = true) (hp : plainN x = true) : SndE Γ n N sc (.Name x pos) (fun _ S => match Γ.G[k]? with | some d => some (.ok d S) | none => none) := fun E => by
  obtain ⟨h1, u, h2, h3⟩ := F.con k x d hk
  refine ⟨tC (fV d), fun X g _ => pe_glob (g.gl hg) (by rw [g.mg]; exact h2) h3 (plain_ne hp).1, ?_⟩
  have e : Γ.G[k]? = some d := by unfold Gm.G; rw [List.getElem?_map, hk]; rfl
  rw [e]
  refine ref_c fun m H => ?_
  cases d <;> first | rfl | cases h1
theorem star_cons {e : Expr} {es : List Expr} {env : Env} (h : isStar e = false) : starEach (e :: es) env = (false, eval e env) :: starEach es env := by
  cases e <;> first | rfl | cases h
theorem star_any {es : List Expr} {env : Env} {pos : Pos} : (∀ e ∈ es, isStar e = false) → (backTo pos (starEach es env)).any (·.1) = false := by
  have h0 : ∀ l : List Expr, (∀ e ∈ l, isStar e = false) → ((starEach l env).any (·.1) = false) ∧ ∀ x ∈ starEach l env, x.1 = false := by
    intro l
    induction l with
    | nil => intro _; exact ⟨rfl, fun x hx => nomatch (show x ∈ ([] : List (Bool × Sem Value)) from hx)⟩
    | cons e l ih =>
      intro h
      obtain ⟨h1, h2⟩ := ih fun y hy => h y (List.mem_cons_of_mem _ hy)
      rw [star_cons (h e List.mem_cons_self)]
      refine ⟨by simp [h1], fun x hx => ?_⟩
      rcases List.mem_cons.mp hx with z | z
      · rw [z]
      · exact h2 x z
  intro h
  have h1 := (h0 es h).2
  cases es with
  | nil => rfl
  | cons e l =>
    have h2 : ∀ x ∈ backTo pos (starEach (e :: l) env), x.1 = false := by
      intro x hx
      rw [star_cons (h e List.mem_cons_self)] at h1 hx
      unfold backTo at hx
      obtain ⟨y, hy, e2⟩ := List.mem_map.mp hx
      rw [← e2]
      exact h1 y hy
    rw [List.any_eq_false]
    intro x hx
    rw [h2 x hx]
    exact Bool.false_ne_true
/-- arguments, from the left -/
def SndA (Γ : Gm) (n : Nat) (N : List Str) (sc : Scope) (ps : List Expr) (f : Loc → Sto → Option (R (List D))) : Prop := ∀ E : XK, ∃ t, (∀ X, Good Γ n N sc X → Passes (L2.CX Γ.P Γ.w) X E → PA X ps t) ∧ RefA Γ.K Γ.XR E t f
theorem snd_nil : SndA Γ n N sc [] (fun _ S => some (.ok [] S)) := fun E => ⟨tNil, fun X _ _ => pa_nil, ref_nil⟩
theorem snd_cons {pe : Expr} {ps : List Expr} {f : Loc → Sto → Option (R D)} {g : Loc → Sto → Option (R (List D))} (he : SndE Γ n N sc pe f) (hs : isStar pe = false) (hr : SndA Γ n N sc ps g) :
    SndA Γ n N sc (pe :: ps) (fun ρ S => bnd (f ρ S) fun d S1 => bnd (g ρ S1) fun ds S2 => some (.ok (d :: ds) S2)) := fun E => by
  obtain ⟨t, h1, h2⟩ := he E
  obtain ⟨u, h3, h4⟩ := hr E
  exact ⟨tCons t u, fun X g hx => pa_cons (h1 X g hx) (h3 X g hx) (star_cons hs), ref_cons h2 h4⟩
theorem snd_tup {ps : List Expr} {j : Nat} {pos : Pos} {g : Loc → Sto → Option (R (List D))} (h : SndA Γ n N sc ps g) : SndE Γ n N sc (.Tuple ps j pos) (fun ρ S => bnd (g ρ S) fun ds S1 => if ds.length ≤ sizeLine then some (.ok (.tup ds) S1) else none) := fun E => by
  obtain ⟨t, h1, h2⟩ := h E
  exact ⟨tTup t, fun X g hx => pe_tup (h1 X g hx), ref_tup h2⟩
theorem snd_lst {ps : List Expr} {pos : Pos} {g : Loc → Sto → Option (R (List D))} (h : SndA Γ n N sc ps g) : SndE Γ n N sc (.List ps pos) (fun ρ S => bnd (g ρ S) fun ds S1 => if ds.length ≤ sizeLine then some (.ok (.ref S1.length) (S1 ++ [.lst ds])) else none) := fun E => by
  obtain ⟨t, h1, h2⟩ := h E
  exact ⟨tLst t, fun X g hx => pe_lst (h1 X g hx), ref_lst h2⟩
theorem snd_op {o : Op2} {a b : Expr} {pos : Pos} {f g : Loc → Sto → Option (R D)} (ha : SndE Γ n N sc a f) (hb : SndE Γ n N sc b g) :
    SndE Γ n N sc (.BinOp a (oOp o) b pos) (fun ρ S => bnd (f ρ S) fun x S1 => bnd (g ρ S1) fun y S2 => lift2 (opD S2 o x y)) := fun E => by
  obtain ⟨t, h1, h2⟩ := ha E
  obtain ⟨u, h3, h4⟩ := hb E
  refine ⟨tOp (rOp Γ.K o) t u, fun X g hx => ?_, ref_op (op2_op o) h2 h4⟩
  have z := opr_op (X := X) o
  rw [g.K] at z
  exact pe_op z (h1 X g hx) (h3 X g hx)
theorem snd_neg {a : Expr} {pos : Pos} {f : Loc → Sto → Option (R D)} (ha : SndE Γ n N sc a f) : SndE Γ n N sc (.UnaryOp .USub a pos) (fun ρ S => bnd (f ρ S) fun x S1 => match x with | .int i => some (.ok (.int (-i)) S1) | _ => none) := fun E => by
  obtain ⟨t, h1, h2⟩ := ha E
  refine ⟨tUn (rU fun i => .int (-i)) t, fun X g hx => pe_un un_neg (h1 X g hx), ?_⟩
  intro m H S ρ σ rr Q rel vo hf p
  refine ref_bnd h2 rel vo hf p fun x S1 v H1 m1 e1 rel1 vo1 hv hf p => ?_
  cases x with
  | int i =>
    cases hf
    have hv : v = .int i := hv
    exact ⟨i, hv, post_here p rel1 rfl⟩
  | _ => cases hf
theorem nomark_of {c : CmpOp} {b : Expr} (h : isSetE b = false) : behindInMarks c b = false := by
  cases b <;> first | rfl | cases h
theorem snd_cmp (F : Γ.Facts) {c : Cm} {a b : Expr} {pos : Pos} {f g : Loc → Sto → Option (R D)} (ha : SndE Γ n N sc a f) (hb : SndE Γ n N sc b g) (hs : isSetE b = false) :
    SndE Γ n N sc (.Compare a [oCm c] [b] pos) (fun ρ S => bnd (f ρ S) fun x S1 => bnd (g ρ S1) fun y S2 => (cmpD S2 c x y).map fun r => .ok (.bl r) S2) ∧
    SndT Γ n N sc (.Compare a [oCm c] [b] pos) (fun ρ S => tst (bnd (f ρ S) fun x S1 => bnd (g ρ S1) fun y S2 => (cmpD S2 c x y).map fun r => .ok (.bl r) S2)) := by
  have hop : ∀ X, Good Γ n N sc X → OpR X (compareOp (oCm c)) (rCm Γ.K c) := fun X gd => by
    have z := opr_cm (X := X) (by rw [gd.base]; exact F.sys) gd.units c
    rw [gd.K] at z
    exact z
  refine ⟨fun E => ?_, fun E => ?_⟩
  · obtain ⟨t, h1, h2⟩ := ha E
    obtain ⟨u, h3, h4⟩ := hb E
    exact ⟨tOp (rCm Γ.K c) t u, fun X gd hx => pe_cmpR (hop X gd) (h1 X gd hx) (h3 X gd hx) (nomark_of hs), ref_cmp (cm2_cm c) h2 h4⟩
  · obtain ⟨t, h1, h2⟩ := ha E
    obtain ⟨u, h3, h4⟩ := hb E
    exact ⟨tTest (tOp (rCm Γ.K c) t u), fun X gd hx => pt_cmpR (hop X gd) (h1 X gd hx) (h3 X gd hx) (nomark_of hs), ref_test (ref_cmp (cm2_cm c) h2 h4)⟩
/-- a op b op c -/
theorem ref_chain {K : PySem.W.Frag} {XR : List Addr → Hp → Value → Option Addr → Nat → D → Prop} {E : XK} {c1 c2 : Cm} {ta tb tc : TE} {f g h : Loc → Sto → Option (R D)} (ha : RefE K XR E ta f) (hb : RefE K XR E tb g) (hc : RefE K XR E tc h) :
    RefE K XR E (tChain (rCm K c1) (rCm K c2) ta tb tc) (fun ρ S => bnd (f ρ S) fun x S1 => bnd (g ρ S1) fun y S2 => match cmpD S2 c1 x y with
      | some true => bnd (h ρ S2) fun z S3 => (cmpD S3 c2 y z).map fun r => .ok (.bl r) S3
      | some false => some (.ok (.bl false) S2)
      | none => none) := by
  intro m H S ρ σ rr Q rel vo hf p
  refine ref_bnd ha rel vo hf p fun x S1 v H1 m1 e1 rel1 vo1 hv hf p => ?_
  refine ref_bnd hb rel1 vo1 hf p fun y S2 u H2 m2 e2 rel2 vo2 hu hf p => ?_
  cases q : cmpD S2 c1 x y with
  | none => rw [q] at hf; cases hf
  | some b =>
    rw [q] at hf
    refine ⟨m2, S2, x, y, b, rel2, VR.mono e2 x v hv, hu, q, b, rfl, ?_⟩
    cases b with
    | false =>
      rw [if_neg Bool.false_ne_true]
      cases hf
      exact post_here p rel2 rfl
    | true =>
      rw [if_pos rfl]
      refine ref_bnd hc rel2 vo2 hf p fun z S3 w H3 m3 e3 rel3 vo3 hw hf p => ?_
      cases q2 : cmpD S3 c2 y z with
      | none => rw [q2] at hf; cases hf
      | some b2 =>
        rw [q2] at hf
        cases hf
        exact ⟨m3, S3, y, z, b2, rel3, VR.mono e3 y u hu, hw, q2, post_here p rel3 rfl⟩
theorem snd_chain (F : Γ.Facts) {c1 c2 : Cm} {a b c : Expr} {pos : Pos} {f g h : Loc → Sto → Option (R D)} (ha : SndE Γ n N sc a f) (hb : SndE Γ n N sc b g) (hc : SndE Γ n N sc c h) (hs : isSetE c = false) :
    SndE Γ n N sc (.Compare a [oCm c1, oCm c2] [b, c] pos) (fun ρ S => bnd (f ρ S) fun x S1 => bnd (g ρ S1) fun y S2 => match cmpD S2 c1 x y with
      | some true => bnd (h ρ S2) fun z S3 => (cmpD S3 c2 y z).map fun r => .ok (.bl r) S3
      | some false => some (.ok (.bl false) S2)
      | none => none) ∧
    SndT Γ n N sc (.Compare a [oCm c1, oCm c2] [b, c] pos) (fun ρ S => tst (bnd (f ρ S) fun x S1 => bnd (g ρ S1) fun y S2 => match cmpD S2 c1 x y with
      | some true => bnd (h ρ S2) fun z S3 => (cmpD S3 c2 y z).map fun r => .ok (.bl r) S3
      | some false => some (.ok (.bl false) S2)
      | none => none)) := by
  have hop : ∀ (c : Cm) X, Good Γ n N sc X → OpR X (compareOp (oCm c)) (rCm Γ.K c) := fun c X gd => by
    have z := opr_cm (X := X) (by rw [gd.base]; exact F.sys) gd.units c
    rw [gd.K] at z
    exact z
  have hm : lastMarks [oCm c1, oCm c2] [b, c] = false := nomark_of hs
  refine ⟨fun E => ?_, fun E => ?_⟩
  · obtain ⟨t, h1, h2⟩ := ha E
    obtain ⟨u, h3, h4⟩ := hb E
    obtain ⟨v, h5, h6⟩ := hc E
    exact ⟨tChain (rCm Γ.K c1) (rCm Γ.K c2) t u v, fun X gd hx => pe_chain (hop c1 X gd) (hop c2 X gd) (h1 X gd hx) (h3 X gd hx) (h5 X gd hx) hm, ref_chain h2 h4 h6⟩
  · obtain ⟨t, h1, h2⟩ := ha E
    obtain ⟨u, h3, h4⟩ := hb E
    obtain ⟨v, h5, h6⟩ := hc E
    exact ⟨tTest (tChain (rCm Γ.K c1) (rCm Γ.K c2) t u v), fun X gd hx => pt_chain (hop c1 X gd) (hop c2 X gd) (h1 X gd hx) (h3 X gd hx) (h5 X gd hx) hm, ref_test (ref_chain h2 h4 h6)⟩
theorem snd_not {a : Expr} {pos : Pos} {f : Loc → Sto → Option (R D)} (ha : SndE Γ n N sc a f) (hb : SndT Γ n N sc a (fun ρ S => tst (f ρ S))) :
    SndE Γ n N sc (.UnaryOp .Not a pos) (fun ρ S => bnd (tst (f ρ S)) fun b S1 => some (.ok (.bl (!b)) S1)) ∧ SndT Γ n N sc (.UnaryOp .Not a pos) (fun ρ S => tst (bnd (tst (f ρ S)) fun b S1 => some (.ok (.bl (!b)) S1))) := by
  refine ⟨fun E => ?_, fun E => ?_⟩
  · obtain ⟨t, h1, h2⟩ := ha E
    exact ⟨tNotV t, fun X gd hx => pe_not (h1 X gd hx), ref_notV h2⟩
  · obtain ⟨t, h1, h2⟩ := hb E
    refine ⟨tNot t, fun X gd hx => pt_not (h1 X gd hx), ?_⟩
    have z := ref_not h2
    intro m H S ρ σ rr Q rel vo hf p
    refine z m H S ρ σ rr Q rel vo ?_ p
    dsimp only at hf ⊢
    cases q : tst (f ρ S) with
    | none => rw [q] at hf; cases hf
    | some r => rw [q] at hf; cases r <;> exact hf
theorem snd_ite {c a b : Expr} {pos : Pos} {fc f g : Loc → Sto → Option (R D)} (hc : SndT Γ n N sc c (fun ρ S => tst (fc ρ S))) (ha : SndE Γ n N sc a f) (hb : SndE Γ n N sc b g) :
    SndE Γ n N sc (.IfExp c a b pos) (fun ρ S => bnd (tst (fc ρ S)) fun t S1 => if t = true then f ρ S1 else g ρ S1) := fun E => by
  obtain ⟨t, h1, h2⟩ := hc E
  obtain ⟨u, h3, h4⟩ := ha E
  obtain ⟨v, h5, h6⟩ := hb E
  exact ⟨tIf t u v, fun X gd hx => pe_ifExp (h1 X gd hx) (h3 X gd hx) (h5 X gd hx), ref_ite h2 h4 h6⟩
theorem ref_ix {K : PySem.W.Frag} {XR : List Addr → Hp → Value → Option Addr → Nat → D → Prop} {E : XK} {ta tb : TE} {f g : Loc → Sto → Option (R D)} (ha : RefE K XR E ta f) (hb : RefE K XR E tb g) :
    RefE K XR E (tOp (rIxM K) ta tb) (fun ρ S => bnd (f ρ S) fun x S1 => bnd (g ρ S1) fun y S2 => (ixD S2 x y).map fun r => .ok r S2) := by
  intro m H S ρ σ rr Q rel vo hf p
  refine ref_bnd ha rel vo hf p fun x S1 v H1 m1 e1 rel1 vo1 hv hf p => ?_
  refine ref_bnd hb rel1 vo1 hf p fun y S2 u H2 m2 e2 rel2 vo2 hu hf p => ?_
  cases q : ixD S2 x y with
  | none => rw [q] at hf; cases hf
  | some d =>
    rw [q] at hf
    cases hf
    exact ⟨m2, S2, x, y, d, rel2, VR.mono e2 x v hv, hu, q, fun w hw => post_here p rel2 hw⟩
theorem plainIx_of {b : Expr} (h : isSlcE b = false) : PlainIx b := fun o i => by
  cases b <;> first | rfl | cases h
theorem snd_ix {a b : Expr} {pos : Pos} {f g : Loc → Sto → Option (R D)} (ha : SndE Γ n N sc a f) (hb : SndE Γ n N sc b g) (hs : isSlcE b = false) :
    SndE Γ n N sc (.Subscript a b pos) (fun ρ S => bnd (f ρ S) fun x S1 => bnd (g ρ S1) fun y S2 => (ixD S2 x y).map fun r => .ok r S2) := fun E => by
  obtain ⟨t, h1, h2⟩ := ha E
  obtain ⟨u, h3, h4⟩ := hb E
  refine ⟨tOp (rIxM Γ.K) t u, fun X gd hx => ?_, ref_ix h2 h4⟩
  have z := ix_mi (X := X)
  rw [gd.K] at z
  exact pe_ix z (h1 X gd hx) (h3 X gd hx) (plainIx_of hs)
/-- a slice's parts -/
def SndO (Γ : Gm) (n : Nat) (N : List Str) (sc : Scope) (pe : Option Expr) (f : Loc → Sto → Option (R (Option Int))) : Prop := ∀ E : XK, ∃ t, (∀ X, Good Γ n N sc X → Passes (L2.CX Γ.P Γ.w) X E → PO X pe t) ∧ RefO Γ.K Γ.XR E t f
theorem snd_onone : SndO Γ n N sc none (fun _ S => some (.ok none S)) := fun E => ⟨tNoPart, fun X _ _ => po_none, fun m H S ρ σ rr Q rel vo hf p => by
  cases hf
  exact post_here p rel rfl⟩
theorem snd_osome {a : Expr} {f : Loc → Sto → Option (R D)} (ha : SndE Γ n N sc a f) : SndO Γ n N sc (some a) (fun ρ S => bnd (f ρ S) fun d S1 => match d with | .int i => some (.ok (some i) S1) | _ => none) := fun E => by
  obtain ⟨t, h1, h2⟩ := ha E
  refine ⟨tPart t, fun X gd hx => po_some (h1 X gd hx), ?_⟩
  intro m H S ρ σ rr Q rel vo hf p
  refine ref_bnd h2 rel vo hf p fun x S1 v H1 m1 e1 rel1 vo1 hv hf p => ?_
  cases x with
  | int i =>
    cases hf
    have hv : v = .int i := hv
    exact ⟨i, hv, post_here p rel1 rfl⟩
  | _ => cases hf
theorem snd_slc {a : Expr} {lo hi : Option Expr} {pos p2 : Pos} {f : Loc → Sto → Option (R D)} {gl gh : Loc → Sto → Option (R (Option Int))} (ha : SndE Γ n N sc a f) (hl : SndO Γ n N sc lo gl) (hh : SndO Γ n N sc hi gh) :
    SndE Γ n N sc (.Subscript a (.Slice lo hi none p2) pos) (fun ρ S => bnd (f ρ S) fun x S1 => bnd (gl ρ S1) fun l S2 => bnd (gh ρ S2) fun h S3 => lift2 (slcD S3 x l h)) := fun E => by
  obtain ⟨t, h1, h2⟩ := ha E
  obtain ⟨u, h3, h4⟩ := hl E
  obtain ⟨v, h5, h6⟩ := hh E
  refine ⟨tSl (rSlM Γ.K) t u v, fun X gd hx => ?_, ?_⟩
  · have z := sl_mi (X := X)
    rw [gd.K] at z
    exact pe_slice z (h1 X gd hx) (h3 X gd hx) (h5 X gd hx)
  · intro m H S ρ σ rr Q rel vo hf p
    refine ref_bnd h2 rel vo hf p fun x S1 v H1 m1 e1 rel1 vo1 hv hf p => ?_
    refine ref_bnd h4 rel1 vo1 hf p fun l S2 l' H2 m2 e2 rel2 vo2 hl hf p => ?_
    refine ref_bnd h6 rel2 vo2 hf p fun h S3 h' H3 m3 e3 rel3 vo3 hh hf p => ?_
    have hl : l' = l := hl
    have hh : h' = h := hh
    subst hl hh
    unfold lift2 at hf
    cases q : slcD S3 x l' h' with
    | none => rw [q] at hf; cases hf
    | some w =>
      rw [q] at hf
      cases hf
      exact ⟨m3, S3, x, w.1, w.2, rel3, VR.mono (e2.trans e3) x v hv, q, p⟩
end
end Mi

end
section
set_option Elab.async false
set_option linter.all false
set_option maxRecDepth 100000
set_option maxHeartbeats 1000000
/-! and, or, calls. -/
namespace Mi
open PySem L2 PySem.Spec PyProof.Rows
section
variable {Γ : Gm} {n : Nat} {N : List Str} {sc : Scope} {X : Cx}
def isIfE : Expr → Bool
  | .IfExp _ _ _ _ => true
  | _ => false
/-- expressions in a row, each shown -/
inductive Sn (Γ : Gm) (n : Nat) (N : List Str) (sc : Scope) (ev : E → Loc → Sto → Option (R D)) : List E → List Expr → Prop
  | nil : Sn Γ n N sc ev [] []
  | cons {e : E} {es : List E} {pe : Expr} {ps : List Expr} : SndE Γ n N sc pe (ev e) → (isIfE pe = false → SndT Γ n N sc pe (fun ρ S => tst (ev e ρ S))) → Sn Γ n N sc ev es ps → Sn Γ n N sc ev (e :: es) (pe :: ps)
def SndW (Γ : Gm) (n : Nat) (N : List Str) (sc : Scope) (pe : Expr) (f : Loc → Sto → Option (R Bool)) : Prop := ∀ E : XK, ∃ t, (∀ X, Good Γ n N sc X → Passes (L2.CX Γ.P Γ.w) X E → PW X pe t) ∧ RefT Γ.K Γ.XR E t f
theorem ref_congr {α β : Type} {K : PySem.W.Frag} {XR : List Addr → Hp → Value → Option Addr → Nat → D → Prop} {E : XK} {V1 : List Addr → Hp → α → β → Prop} {t : L2.St → Hp → (β → Hp → Prop) → Prop} {f g : Loc → Sto → Option (R α)} (h : Ref K XR E V1 t f) (e : ∀ ρ S, g ρ S = f ρ S) : Ref K XR E V1 t g := by
  have : g = f := by funext ρ S; exact e ρ S
  rw [this]; exact h
theorem tst_bl (x : Option (R Bool)) : tst (bnd x fun b S1 => some (.ok (.bl b) S1)) = x := by
  cases x with
  | none => rfl
  | some r => cases r <;> rfl
theorem tst_if {x : Option (R Bool)} {c : Sto → Option (R D)} {d : Bool} : tst (bnd x fun b S1 => if b = true then c S1 else some (.ok (.bl d) S1)) = bnd x fun b S1 => if b = true then tst (c S1) else some (.ok d S1) := by
  cases x with
  | none => rfl
  | some r =>
    cases r with
    | ok b S => cases b <;> rfl
    | ex c v S => rfl
theorem tst_if' {x : Option (R Bool)} {c : Sto → Option (R D)} {d : Bool} : tst (bnd x fun b S1 => if b = true then some (.ok (.bl d) S1) else c S1) = bnd x fun b S1 => if b = true then some (.ok d S1) else tst (c S1) := by
  cases x with
  | none => rfl
  | some r =>
    cases r with
    | ok b S => cases b <;> rfl
    | ex c v S => rfl
theorem snd_and {G : List D} {cal : Cal} {pos : Pos} : ∀ {es : List E} {ps : List Expr}, Sn Γ n N sc (evE G cal) es ps → es ≠ [] → (∀ e ∈ ps, isIfE e = false) → SndE Γ n N sc (.BoolOp .And ps pos) (fun ρ S => evAnd G cal es ρ S) ∧ SndW Γ n N sc (.BoolOp .And ps pos) (fun ρ S => tst (evAnd G cal es ρ S))
  | _, _, .nil, h, _ => absurd rfl h
  | _, _, .cons (e := e) (pe := pe) h1 h2 .nil, _, hI => by
    refine ⟨fun E => ?_, fun E => ?_⟩
    · obtain ⟨t, a1, a2⟩ := h1 E
      exact ⟨t, fun X gd hx => pe_one (a1 X gd hx), ref_congr (ref_lastV a2) fun ρ S => by simp only [evAnd]⟩
    · obtain ⟨t, a1, a2⟩ := h2 (hI _ List.mem_cons_self) E
      refine ⟨t, fun X gd hx => pw_and1 (a1 X gd hx), ref_congr a2 fun ρ S => ?_⟩
      simp only [evAnd]
      exact tst_bl _
  | _, _, .cons (e := e) (pe := pe) h1 h2 (.cons (e := e') (es := es) (pe := pe') (ps := ps) h3 h4 h5), _, hI => by
    obtain ⟨q1, q2⟩ := snd_and (.cons h3 h4 h5) (by simp) (fun e he => hI e (List.mem_cons_of_mem _ he))
    refine ⟨fun E => ?_, fun E => ?_⟩
    · obtain ⟨t, a1, a2⟩ := h1 E
      obtain ⟨u, b1, b2⟩ := q1 E
      refine ⟨tAndV t u, fun X gd hx => pe_and (a1 X gd hx) (b1 X gd hx), ref_congr (ref_andV a2 b2) fun ρ S => ?_⟩
      rw [evAnd]
    · obtain ⟨t, a1, a2⟩ := h2 (hI _ List.mem_cons_self) E
      obtain ⟨u, b1, b2⟩ := q2 E
      refine ⟨tAnd t u, fun X gd hx => pw_and (a1 X gd hx) (b1 X gd hx), ref_congr (ref_and a2 b2) fun ρ S => ?_⟩
      rw [evAnd]
      exact tst_if
theorem snd_or {G : List D} {cal : Cal} {pos : Pos} : ∀ {es : List E} {ps : List Expr}, Sn Γ n N sc (evE G cal) es ps → es ≠ [] → (∀ e ∈ ps, isIfE e = false) → SndE Γ n N sc (.BoolOp .Or ps pos) (fun ρ S => evOr G cal es ρ S) ∧ SndW Γ n N sc (.BoolOp .Or ps pos) (fun ρ S => tst (evOr G cal es ρ S))
  | _, _, .nil, h, _ => absurd rfl h
  | _, _, .cons (e := e) (pe := pe) h1 h2 .nil, _, hI => by
    refine ⟨fun E => ?_, fun E => ?_⟩
    · obtain ⟨t, a1, a2⟩ := h1 E
      exact ⟨t, fun X gd hx => pe_one (a1 X gd hx), ref_congr (ref_lastV a2) fun ρ S => by simp only [evOr]⟩
    · obtain ⟨t, a1, a2⟩ := h2 (hI _ List.mem_cons_self) E
      refine ⟨t, fun X gd hx => pw_or1 (a1 X gd hx), ref_congr a2 fun ρ S => ?_⟩
      simp only [evOr]
      exact tst_bl _
  | _, _, .cons (e := e) (pe := pe) h1 h2 (.cons (e := e') (es := es) (pe := pe') (ps := ps) h3 h4 h5), _, hI => by
    obtain ⟨q1, q2⟩ := snd_or (.cons h3 h4 h5) (by simp) (fun e he => hI e (List.mem_cons_of_mem _ he))
    refine ⟨fun E => ?_, fun E => ?_⟩
    · obtain ⟨t, a1, a2⟩ := h1 E
      obtain ⟨u, b1, b2⟩ := q1 E
      refine ⟨tOrV t u, fun X gd hx => pe_or (a1 X gd hx) (b1 X gd hx), ref_congr (ref_orV a2 b2) fun ρ S => ?_⟩
      rw [evOr]
    · obtain ⟨t, a1, a2⟩ := h2 (hI _ List.mem_cons_self) E
      obtain ⟨u, b1, b2⟩ := q2 E
      refine ⟨tOr t u, fun X gd hx => pw_or (a1 X gd hx) (b1 X gd hx), ref_congr (ref_or a2 b2) fun ρ S => ?_⟩
      rw [evOr]
      exact tst_if'
theorem SndW.test {pe : Expr} {f : Loc → Sto → Option (R Bool)} (h : SndW Γ n N sc pe f) : SndT Γ n N sc pe f := fun E => by
  obtain ⟨t, h1, h2⟩ := h E
  exact ⟨t, fun X gd hx => (h1 X gd hx).pt, h2⟩
/-- arguments as a list -/
theorem Sn.args {G : List D} {cal : Cal} : ∀ {es : List E} {ps : List Expr}, Sn Γ n N sc (evE G cal) es ps → (∀ e ∈ ps, isStar e = false) → SndA Γ n N sc ps (fun ρ S => evEs G cal es ρ S)
  | _, _, .nil, _ => fun E => by
    obtain ⟨t, h1, h2⟩ := snd_nil (Γ := Γ) (n := n) (N := N) (sc := sc) E
    exact ⟨t, h1, ref_congr h2 fun ρ S => by rw [evEs]⟩
  | _, _, .cons (e := e) (pe := pe) h1 h2 h3, hs => fun E => by
    obtain ⟨t, a1, a2⟩ := snd_cons h1 (hs _ List.mem_cons_self) (Sn.args h3 fun e he => hs e (List.mem_cons_of_mem _ he)) E
    exact ⟨t, a1, ref_congr a2 fun ρ S => by rw [evEs]⟩
/-! ### calls -/
theorem snd_call (C : Γ.Calls n) {f : Nat} {F : Fd} {x : Str} {ps : List Expr} {p pos : Pos} {g : Loc → Sto → Option (R (List D))} (hF : Γ.T[f]? = some F) (hn : F.name = x) (hg : isGlb (sc.names.lookup x) = true) (hp : plainN x = true)
    (h0 : ps ≠ []) (hs : ∀ e ∈ ps, isStar e = false) (ha : SndA Γ n N sc ps g) : SndE Γ n N sc (.Call (.Name x p) ps [] pos) (fun ρ S => bnd (g ρ S) fun ds S1 => Γ.cal n f ds S1) := fun E => by
  obtain ⟨t, h1, h2⟩ := ha E
  obtain ⟨a, fd, pss, c1, c2, c3, c4, c5⟩ := C f F hF
  refine ⟨tCall (Γ.sp n f) [] E t, fun X gd hx => ?_, ?_⟩
  · cases ps with
    | nil => exact absurd rfl h0
    | cons e es =>
      have hh : PE X (.Call (.Name x p) (e :: es) [] pos) (tCall (Γ.sp n f) [] E t) := by
        refine pe_callM (k := n) (f := a) (fd := fd) (ps := pss) ?_ gd.grd gd.room (gd.gl hg) ?_ ?_ ?_ ?_ (h1 X gd hx) (plain_ne hp).1 (star_cons (hs e List.mem_cons_self)) (star_any fun y hy => hs y (List.mem_cons_of_mem _ hy))
        · rw [gd.prog, gd.w, gd.K, gd.mg, gd.base]; exact c5
        · rw [gd.mg, ← hn]; exact c1
        · rw [gd.K]; exact c2
        · rw [gd.K]; exact c3
        · rw [gd.prog, gd.w]; exact hx
      exact hh
  · intro m H S ρ σ rr Q rel vo hf p
    refine ref_bnd h2 rel vo hf p fun ds S1 vs H1 m1 e1 rel1 vo1 hv hf p => ?_
    exact ⟨m1, S1, ds, rr, rel1, by rw [List.append_nil]; exact hv, hf, p⟩
/-! ### built-in functions -/
def biV : Bi → Option (Str × Value)
  | .len => some ("len", .builtin "len")
  | .int => some ("int", .type "int")
  | .abs => some ("abs", .builtin "abs")
  | .min2 => some ("min", .builtin "min")
  | .max2 => some ("max", .builtin "max")
  | .repr => some ("repr", .builtin "repr")
  | .str => some ("str", .type "str")
  | .all => some ("all", .builtin "all")
  | .any => some ("any", .builtin "any")
  | .sum => some ("sum", .builtin "sum")
  | .lst => some ("list", .type "list")
  | .tuple => some ("tuple", .type "tuple")
  | _ => none
theorem biV_boot {b : Bi} {x : Str} {v : Value} (h : biV b = some (x, v)) : bootBuiltins x = some v := by
  cases b <;> first | cases h | skip
  all_goals (first | exact boot_len | decide +kernel)
theorem biV_free {b : Bi} {x : Str} {v : Value} (h : biV b = some (x, v)) : x ∈ freeNames := by
  cases b <;> first | cases h | skip
  all_goals decide +kernel
theorem biV_call (F : Γ.Facts) {b : Bi} {x : Str} {v : Value} (h : biV b = some (x, v)) (gd : Good Γ n N sc X) : CallR X v (rBi X.K b) := by
  have hs : SysOk X.base := by rw [gd.base]; exact F.sys
  cases b <;> first | cases h | skip
  · exact bi_len
  · exact bi_int
  · exact bi_abs
  · exact bi_min gd.calm
  · exact bi_max gd.calm
  · exact bi_repr hs gd.grd gd.units
  · exact bi_str
  · exact bi_all gd.calm
  · exact bi_any gd.calm
  · exact bi_sum gd.calm
  · exact bi_lst
  · exact bi_tuple
theorem ref_bi {K : PySem.W.Frag} {XR : List Addr → Hp → Value → Option Addr → Nat → D → Prop} {E : XK} {t : TA} {b : Bi} {g : Loc → Sto → Option (R (List D))} (ha : RefA K XR E t g) : RefE K XR E (tCB (rBi K b) t) (fun ρ S => bnd (g ρ S) fun ds S1 => lift2 (biD S1 b ds)) := by
  intro m H S ρ σ rr Q rel vo hf p
  refine ref_bnd ha rel vo hf p fun ds S1 vs H1 m1 e1 rel1 vo1 hv hf p => ?_
  unfold lift2 at hf
  cases q : biD S1 b ds with
  | none => rw [q] at hf; cases hf
  | some w =>
    rw [q] at hf
    cases hf
    exact ⟨m1, S1, ds, w.1, w.2, rel1, hv, q, p⟩
theorem snd_bi (F : Γ.Facts) {b : Bi} {x : Str} {v : Value} {ps : List Expr} {p pos : Pos} {g : Loc → Sto → Option (R (List D))} (hb : biV b = some (x, v)) (hg : isGlb (sc.names.lookup x) = true)
    (h0 : ps ≠ []) (hs : ∀ e ∈ ps, isStar e = false) (ha : SndA Γ n N sc ps g) : SndE Γ n N sc (.Call (.Name x p) ps [] pos) (fun ρ S => bnd (g ρ S) fun ds S1 => lift2 (biD S1 b ds)) := fun E => by
  obtain ⟨t, h1, h2⟩ := ha E
  refine ⟨tCB (rBi Γ.K b) t, fun X gd hx => ?_, ref_bi h2⟩
  have hc := biV_call F hb gd
  rw [gd.K] at hc
  have hm : X.mg x = none := by rw [gd.mg]; exact F.free x (biV_free hb)
  have hbt := biV_boot hb
  have hn : x ≠ "__name__" := by cases b <;> first | cases hb | skip
                                 all_goals decide +kernel
  have hd : (x == ("__debug__" : Str)) = false := by cases b <;> first | cases hb | skip
                                                     all_goals decide +kernel
  cases ps with
  | nil => exact absurd rfl h0
  | cons e es =>
    have s1 := star_cons (es := es) (env := X.env) (hs e List.mem_cons_self)
    have s2 := star_any (es := es) (env := X.env) (pos := pos) fun y hy => hs y (List.mem_cons_of_mem _ hy)
    cases v with
    | builtin id => exact pe_callB hc (gd.gl hg) hm hbt (h1 X gd hx) hn hd s1 s2
    | type T => exact pe_callTy hc (gd.gl hg) hm hbt (h1 X gd hx) hn hd s1 s2
    | _ => exfalso; cases b <;> cases hb
end
end Mi

end
section
set_option Elab.async false
set_option linter.all false
set_option maxRecDepth 100000
set_option maxHeartbeats 1000000
/-! isinstance, ranges as lists, methods of lists, dicts. -/
namespace Mi
open PySem L2 PySem.Spec PyProof.Rows
section
variable {Γ : Gm} {n : Nat} {N : List Str} {sc : Scope} {X : Cx}
/-! ### isinstance -/
theorem tyx_of {K : PySem.W.Frag} {m : List Addr} {S : Sto} {H : Hp} {d : D} {v : V} {a : String} (rel : Rel K m S H) (h : VR K m H d v) (e : tyD S d = some a) : TyX K H v (.type a) := by
  cases d with
  | non => cases e; have h : v = .non := h; subst h; exact .base .non
  | bl b => cases e; have h : v = .bl b := h; subst h; exact .base (.bl b)
  | int i => cases e; have h : v = .int i := h; subst h; exact .base (.int i)
  | str x => cases e; have h : v = .str x := h; subst h; exact .base (.str x)
  | tup ds =>
    cases e
    obtain ⟨p, xs, e1, h1, h2⟩ := h
    subst e1
    rcases h1 with (h1 | ⟨o, h1⟩) | ⟨o, its, n, h1, h3, _⟩
    · exact .base (.tup h1)
    · exact .fTuple h1
    · exact .kTuple h1 h3
  | frz ds =>
    cases e
    obtain ⟨p, xs, e1, h1, h2⟩ := h
    subst e1
    rcases h1 with ⟨o, h1⟩ | (h1 | ⟨o, h1⟩) | ⟨o, its, n, h1, h3, _⟩
    · exact .base (.frz h1)
    · cases h1
    · cases h1
    · exact .kList h1 h3
  | ref r =>
    obtain ⟨p, e1, h1⟩ := h
    subst e1
    have e : (match S[r]? with | some (.lst _) => some "list" | some (.dct _) => some "dict" | none => none) = some a := e
    split at e
    · rename_i xs q
      cases e
      obtain ⟨vs, g1, _⟩ := rel.lst h1 q
      exact .base (.lst g1)
    · rename_i kvs q
      cases e
      obtain ⟨vs, g1, _⟩ := rel.obj r p _ h1 q
      exact .base (.dK g1)
    · cases e
theorem snd_isi (F : Γ.Facts) {t : String} {pe : Expr} {tn : Str} {p p2 pos : Pos} {f : Loc → Sto → Option (R D)} (ha : SndE Γ n N sc pe f) (hs : isStar pe = false) (hb : bootBuiltins tn = some (.type t)) (hf : tn ∈ freeNames) (hp : plainN tn = true)
    (hg : isGlb (sc.names.lookup ("isinstance" : Str)) = true) (hg2 : isGlb (sc.names.lookup tn) = true) :
    SndE Γ n N sc (.Call (.Name "isinstance" p) [pe, .Name tn p2] [] pos) (fun ρ S => bnd (bnd (f ρ S) fun d S1 => some (.ok [d] S1)) fun ds S1 => lift2 (biD S1 (.isi t) ds)) := fun E => by
  obtain ⟨u, h1, h2⟩ := ha E
  refine ⟨tCB (rIsi Γ.K) (tCons u (tCons (tC (.ty t)) tNil)), fun X gd hx => ?_, ?_⟩
  · have hm : X.mg "isinstance" = none := by rw [gd.mg]; exact F.free _ (by decide +kernel)
    have hm2 : X.mg tn = none := by rw [gd.mg]; exact F.free _ hf
    have hc := call_isi (X := X)
    rw [gd.K] at hc
    exact pe_callB hc (gd.gl hg) hm (by decide +kernel) (pa_cons (h1 X gd hx) (pa_cons (pe_bltn (v := .ty t) (gd.gl hg2) hm2 hb rfl (plain_ne hp).2.2 (plain_ne hp).1) pa_nil) (star_cons hs)) (by decide +kernel) (by decide +kernel) (star_cons hs)
      (star_any fun y hy => by rcases List.mem_singleton.mp hy with rfl; rfl)
  · intro m H S ρ σ rr Q rel vo hf p
    dsimp only at hf
    cases q : f ρ S with
    | none => rw [q] at hf; cases hf
    | some r1 =>
      refine h2 m H S ρ σ r1 _ rel vo q ?_
      rw [q] at hf
      cases r1 with
      | ex c dv S1 => cases hf; exact p
      | ok d S1 =>
        intro v H1 m1 e1 rel1 hv
        have hf : ((isiD S1 t d).map fun b => (D.bl b, S1)).map (fun q => R.ok q.1 q.2) = some rr := hf
        obtain ⟨w, g1, g2⟩ := map_some hf
        obtain ⟨b, g3, g4⟩ := map_some g1
        subst g4 g2
        obtain ⟨a, g5, g6⟩ := bind_some (show (tyD S1 d).bind (fun a => kitB a t) = some b from g3)
        exact ⟨v, .ty t, .type a, .type t, b, rfl, .ty t, tyx_of rel1 hv g5, kit_ty g6, post_ok p e1 rel1 rfl⟩
/-! ### list(range(..)) -/
theorem rg_rel {K : PySem.W.Frag} {m : List Addr} {H : Hp} (a b : Int) : VRs K m H (rgD a b) (rgV a b) := by
  have h : ∀ l : List Nat, VRs K m H (l.map fun (i : Nat) => D.int (a + (i : Int))) (l.map fun (i : Nat) => V.int (a + (i : Int))) := by
    intro l
    induction l with
    | nil => exact VRs.nil
    | cons x l ih => exact VRs.cons rfl ih
  exact h _
theorem snd_rng (F : Γ.Facts) {a b : Expr} {p p2 pos pos2 : Pos} {f g : Loc → Sto → Option (R D)} (ha : SndE Γ n N sc a f) (hb : SndE Γ n N sc b g) (s1 : isStar a = false) (s2 : isStar b = false) (hg : isGlb (sc.names.lookup ("list" : Str)) = true) (hg2 : isGlb (sc.names.lookup ("range" : Str)) = true) :
    SndE Γ n N sc (.Call (.Name "list" p) [.Call (.Name "range" p2) [a, b] [] pos2] [] pos) (fun ρ S => bnd (bnd (f ρ S) fun x S1 => bnd (g ρ S1) fun y S2 => some (.ok [x, y] S2)) fun ds S1 => lift2 (biD S1 .rng ds)) := fun E => by
  obtain ⟨t, h1, h2⟩ := ha E
  obtain ⟨u, h3, h4⟩ := hb E
  refine ⟨tLstRg (tRg2 t u), fun X gd hx => ?_, ?_⟩
  · have hm : X.mg "list" = none := by rw [gd.mg]; exact F.free _ (by decide +kernel)
    have hm2 : X.mg "range" = none := by rw [gd.mg]; exact F.free _ (by decide +kernel)
    refine pe_listRg gd.calm (gd.gl hg) hm (prg_2 (gd.gl hg2) hm2 (h1 X gd hx) (h3 X gd hx) ?_ ?_ ?_) rfl
    · rw [star_cons s1, star_cons s2]
    · rw [star_cons s2]
    · rw [star_cons s2]; rfl
  · intro m H S ρ σ rr Q rel vo hf p
    dsimp only at hf
    cases q : f ρ S with
    | none => rw [q] at hf; cases hf
    | some r1 =>
      rw [q] at hf
      refine h2 m H S ρ σ r1 _ rel vo q ?_
      cases r1 with
      | ex c dv S1 => cases hf; exact p
      | ok x S1 =>
        intro v H1 m1 e1 rel1 hv
        have vo1 := vo.mono e1
        rw [bnd_ok] at hf
        cases q2 : g ρ S1 with
        | none => rw [q2] at hf; cases hf
        | some r2 =>
          rw [q2] at hf
          refine h4 m1 H1 S1 ρ σ r2 _ rel1 vo1 q2 ?_
          cases r2 with
          | ex c dv S2 => cases hf; exact PostX.mono e1 p
          | ok y S2 =>
            intro w H2 m2 e2 rel2 hw
            rw [bnd_ok, bnd_ok] at hf
            obtain ⟨z, g1, g2⟩ := map_some (show (biD S2 .rng [x, y]).map (fun q => R.ok q.1 q.2) = some rr from hf)
            subst g2
            cases x with
            | int i =>
              cases y with
              | int j =>
                obtain ⟨g3, g4⟩ := if_some (show (if rgOk i j then some (D.ref S2.length, S2 ++ [.lst (rgD i j)]) else none) = some z from g1)
                subst g4
                have hv : v = .int i := hv
                have hw : w = .int j := hw
                subst hv hw
                refine ⟨i, j, rfl, rfl, g3, fun l hl => ?_⟩
                obtain ⟨a1, a2, a3⟩ := new_lst rel2 hl (rg_rel i j)
                exact post_ok p ((e1.trans e2).trans a1) a2 a3
              | _ => cases g1
            | _ => cases g1
theorem snd_rng1 (F : Γ.Facts) {b : Expr} {p p2 pos pos2 : Pos} {g : Loc → Sto → Option (R D)} (hb : SndE Γ n N sc b g) (s2 : isStar b = false) (hg : isGlb (sc.names.lookup ("list" : Str)) = true) (hg2 : isGlb (sc.names.lookup ("range" : Str)) = true) :
    SndE Γ n N sc (.Call (.Name "list" p) [.Call (.Name "range" p2) [b] [] pos2] [] pos) (fun ρ S => bnd (bnd (g ρ S) fun y S2 => some (.ok [y] S2)) fun ds S1 => lift2 (biD S1 .rng1 ds)) := fun E => by
  obtain ⟨u, h3, h4⟩ := hb E
  refine ⟨tLstRg (tRg1 u), fun X gd hx => ?_, ?_⟩
  · have hm : X.mg "list" = none := by rw [gd.mg]; exact F.free _ (by decide +kernel)
    have hm2 : X.mg "range" = none := by rw [gd.mg]; exact F.free _ (by decide +kernel)
    refine pe_listRg gd.calm (gd.gl hg) hm (prg_1 (gd.gl hg2) hm2 (h3 X gd hx) ?_) rfl
    rw [star_cons s2]
  · intro m H S ρ σ rr Q rel vo hf p
    dsimp only at hf
    cases q2 : g ρ S with
    | none => rw [q2] at hf; cases hf
    | some r2 =>
      rw [q2] at hf
      refine h4 m H S ρ σ r2 _ rel vo q2 ?_
      cases r2 with
      | ex c dv S2 => cases hf; exact p
      | ok y S2 =>
        intro w H2 m2 e2 rel2 hw
        rw [bnd_ok, bnd_ok] at hf
        obtain ⟨z, g1, g2⟩ := map_some (show (biD S2 .rng1 [y]).map (fun q => R.ok q.1 q.2) = some rr from hf)
        subst g2
        cases y with
        | int j =>
          obtain ⟨g3, g4⟩ := if_some (show (if rgOk 0 j then some (D.ref S2.length, S2 ++ [.lst (rgD 0 j)]) else none) = some z from g1)
          subst g4
          have hw : w = .int j := hw
          subst hw
          refine ⟨j, rfl, g3, fun l hl => ?_⟩
          obtain ⟨a1, a2, a3⟩ := new_lst rel2 hl (rg_rel 0 j)
          exact post_ok p (e2.trans a1) a2 a3
        | _ => cases g1
/-! ### xs.append(e), xs.extend(ys) -/
def isNameE : Expr → Bool
  | .Name _ _ => true
  | _ => false
theorem set_lst {K : PySem.W.Frag} {m : List Addr} {S : Sto} {H : Hp} {r : Nat} {a : Addr} {ds es : List D} {vs : List V} (rel : Rel K m S H) (h : m[r]? = some a) (he : VRs K m H es vs) :
    Ext K m H m (upd H a (.lst vs)) ∧ Rel K m (S.set r (.lst es)) (upd H a (.lst vs)) := by
  have e := Ext.set (u := .lst vs) rel h
  exact ⟨e, rel.set h ⟨vs, upd_same, VRs.mono e _ _ he⟩⟩
theorem isL_of {K : PySem.W.Frag} {m : List Addr} {S : Sto} {H : Hp} {x : D} {v : V} (rel : Rel K m S H) (h : VR K m H x v) (e : isL S x = true) : ∃ r a xs vs, x = .ref r ∧ v = .ref a ∧ m[r]? = some a ∧ lstAt S r = some xs ∧ H a = some (.lst vs) ∧ VRs K m H xs vs := by
  cases x with
  | ref r =>
    obtain ⟨a, e1, h1⟩ := h
    obtain ⟨xs, e2⟩ := Option.isSome_iff_exists.mp (show (lstAt S r).isSome = true from e)
    obtain ⟨vs, g1, g2⟩ := rel.lst h1 (lstAt_some e2)
    exact ⟨r, a, xs, vs, rfl, e1, h1, e2, g1, g2⟩
  | _ => cases e
theorem few_one {b : Expr} {pos : Pos} {env : Env} (h : isStar b = false) : ((backTo pos (starEach [b] env)).all (fun x => !x.1) && (backToKw pos (keywordEach [] env)).all (fun x => x.1.isSome) && decide (([b] : List Expr).length + ([] : List Keyword).length + (if ([] : List Keyword).isEmpty then 0 else 1) < 30)) = true := by
  rw [star_cons h]; rfl
theorem base_name {a : Expr} {nm : Str} {env : Env} (h : isNameE a = true) : attributeBase a nm env (eval a env) = eval a env := by
  cases a <;> first | rfl | cases h
/-- a method of a list, with one argument -/
theorem ref_lm {K : PySem.W.Frag} {XR : List Addr → Hp → Value → Option Addr → Nat → D → Prop} {E : XK} {t u : TE} {f g : Loc → Sto → Option (R D)} {r : V → List V → Hp → VK → Prop} {k : Sto → D → D → Option (R D)} (ha : RefE K XR E t f) (hb : RefE K XR E u g)
    (hk : ∀ m H S x y v w rr (Q : VK), Rel K m S H → VR K m H x v → VR K m H y w → k S x y = some rr → Post K XR E (VR K) m H rr Q → r v [w] H Q) :
    RefE K XR E (tBM K "list" r t (tCons u tNil)) (fun ρ S => bnd (f ρ S) fun x S1 => if isL S1 x = true then bnd (g ρ S1) fun y S2 => k S2 x y else none) := by
  intro m H S ρ σ rr Q rel vo hf p
  refine ref_bnd ha rel vo hf p fun x S1 v H1 m1 e1 rel1 vo1 hv hf p => ?_
  split at hf
  · rename_i hl
    obtain ⟨r0, a, xs, vs, _, ev, h1, h2, h3, h4⟩ := isL_of rel1 hv hl
    refine ⟨?_, ?_⟩
    · subst ev
      exact Or.inl ⟨rfl, vs, Or.inl (Or.inl h3)⟩
    · refine ref_bnd hb rel1 vo1 hf p fun y S2 w H2 m2 e2 rel2 vo2 hw hf p => ?_
      exact hk m2 H2 S2 x y v w rr Q rel2 (VR.mono e2 x v hv) hw hf p
  · cases hf
theorem snd_app {a b : Expr} {apos pos : Pos} {f g : Loc → Sto → Option (R D)} (ha : SndE Γ n N sc a f) (hb : SndE Γ n N sc b g) (hn : isNameE a = true) (hs : isStar b = false) (hl : (apos.endLine == pos.line) = true) :
    SndE Γ n N sc (.Call (.Attribute a "append" apos) [b] [] pos) (fun ρ S => bnd (f ρ S) fun x S1 => if isL S1 x = true then bnd (g ρ S1) fun y S2 => appD S2 x y else none) := fun E => by
  obtain ⟨t, h1, h2⟩ := ha E
  obtain ⟨u, h3, h4⟩ := hb E
  refine ⟨tBM Γ.K "list" rAppend t (tCons u tNil), fun X gd hx => ?_, ref_lm h2 h4 ?_⟩
  · have s1 := star_cons (es := []) (env := X.env) hs
    have z : PE X (.Call (.Attribute a "append" apos) [b] [] pos) (tBM X.K "list" rAppend t (tCons u tNil)) :=
      pe_bm PySem.F.plainAttrs_list PySem.F.slot_list_append PySem.F.type_list_append mt_append (h1 X gd hx) (pa_cons (h3 X gd hx) pa_nil s1) (base_name hn) (few_one hs) hl s1 rfl
    rw [gd.K] at z
    exact z
  · intro m H S x y v w rr Q rel hv hw hf p
    unfold appD at hf
    split at hf
    · rename_i r
      split at hf
      · rename_i xs q
        obtain ⟨g1, g2⟩ := if_some hf
        subst g2
        obtain ⟨a0, ev, hm⟩ := hv
        obtain ⟨vs, q3, q4⟩ := rel.lst hm (lstAt_some q)
        obtain ⟨b1, b2⟩ := set_lst (ds := xs) rel hm (q4.append (VRs.cons hw VRs.nil))
        exact ⟨a0, vs, w, ev, rfl, q3, by rw [q4.length]; exact g1, post_ok p b1 b2 rfl⟩
      · cases hf
    · cases hf
theorem snd_ext {a b : Expr} {apos pos : Pos} {f g : Loc → Sto → Option (R D)} (ha : SndE Γ n N sc a f) (hb : SndE Γ n N sc b g) (hn : isNameE a = true) (hs : isStar b = false) (hl : (apos.endLine == pos.line) = true) :
    SndE Γ n N sc (.Call (.Attribute a "extend" apos) [b] [] pos) (fun ρ S => bnd (f ρ S) fun x S1 => if isL S1 x = true then bnd (g ρ S1) fun y S2 => extD S2 x y else none) := fun E => by
  obtain ⟨t, h1, h2⟩ := ha E
  obtain ⟨u, h3, h4⟩ := hb E
  refine ⟨tBM Γ.K "list" rExtend t (tCons u tNil), fun X gd hx => ?_, ref_lm h2 h4 ?_⟩
  · have s1 := star_cons (es := []) (env := X.env) hs
    have z : PE X (.Call (.Attribute a "extend" apos) [b] [] pos) (tBM X.K "list" rExtend t (tCons u tNil)) :=
      pe_bm PySem.F.plainAttrs_list PySem.F.slot_list_extend PySem.F.type_list_extend mt_extend (h1 X gd hx) (pa_cons (h3 X gd hx) pa_nil s1) (base_name hn) (few_one hs) hl s1 rfl
    rw [gd.K] at z
    exact z
  · intro m H S x y v w rr Q rel hv hw hf p
    unfold extD at hf
    split at hf
    · rename_i r q
      split at hf
      · rename_i xs ys q1 q2
        obtain ⟨g1, g2⟩ := if_some hf
        subst g2
        obtain ⟨a0, ev, hm⟩ := hv
        obtain ⟨b0, ew, hm2⟩ := hw
        obtain ⟨vs, q3, q4⟩ := rel.lst hm (lstAt_some q1)
        obtain ⟨ws, q5, q6⟩ := rel.lst hm2 (lstAt_some q2)
        obtain ⟨b1, b2⟩ := set_lst (ds := xs) rel hm (q4.append q6)
        exact ⟨a0, b0, vs, ws, ev, by rw [ew], q3, q5, by rw [q4.length, q6.length]; exact g1, post_ok p b1 b2 rfl⟩
      · cases hf
    · cases hf
/-! ### dicts that are written -/
theorem snd_dic0 {pos : Pos} : SndE Γ n N sc (.Dict [] [] pos) (fun _ S => bnd (some (.ok ([] : List D) S)) fun ds S1 => some (.ok (.ref S1.length) (S1 ++ [.dct ((([] : List Str).map Sum.inr).zip ds)]))) := fun E => by
  refine ⟨tDNewK, fun X gd hx => pe_dnewK, ?_⟩
  intro m H S ρ σ rr Q rel vo hf p
  cases hf
  intro q hq
  have e := Ext.new (o := .dK []) rel hq [q] (by simp)
  exact post_ok p e (rel.alloc hq ⟨[], upd_same, rfl, rfl⟩) ⟨q, rfl, by rw [← rel.len]; exact alloc_get q⟩
/-- one written key -/
theorem snd_dic1 {x : Str} {b : Expr} {j : Nat} {p pos : Pos} {g : Loc → Sto → Option (R D)} (hb : SndE Γ n N sc b g) : SndE Γ n N sc (.Dict [some (.Constant (.str x) j p)] [b] pos) (fun ρ S => bnd (bnd (g ρ S) fun d S1 => some (.ok [d] S1)) fun ds S1 => some (.ok (.ref S1.length) (S1 ++ [.dct ((([x] : List Str).map Sum.inr).zip ds)]))) := fun E => by
  obtain ⟨u, h3, h4⟩ := hb E
  refine ⟨tDisp [(tC (.str x), u)], fun X gd hx => pe_disp (pps_cons pe_str (h3 X gd hx) pps_nil) rfl rfl (by simp) (by simp), ?_⟩
  intro m H S ρ σ rr Q rel vo hf p
  intro q hq
  have e := Ext.new (o := .dK []) rel hq [] (by simp)
  rw [List.append_nil] at e
  have rel0 : Rel Γ.K m S (upd H q (.dK [])) := ⟨rel.len, rel.inj, fun n a o g1 g2 => OR.mono e (upd_ne fun z => rel.fresh hq (z ▸ List.mem_of_getElem? g1)) (rel.obj n a o g1 g2)⟩
  have vo0 := vo.mono e
  show u σ (upd H q (.dK [])) _
  dsimp only at hf
  cases q2 : g ρ S with
  | none => rw [q2] at hf; cases hf
  | some r2 =>
    rw [q2] at hf
    refine h4 m _ S ρ σ r2 _ rel0 vo0 q2 ?_
    cases r2 with
    | ex c dv S1 => cases hf; exact PostX.mono e p
    | ok d S1 =>
      intro w H2 m2 e2 rel2 hw
      rw [bnd_ok, bnd_ok] at hf
      cases hf
      obtain ⟨f1, f2⟩ := e2.frm q _ upd_same (rel.fresh hq)
      refine ⟨f1, [(Sum.inr x, w)], rfl, by simp, ?_⟩
      have em : mergeK [] [((Sum.inr x : Key), w)] = [((Sum.inr x : Key), w)] := rfl
      rw [em]
      have np := f2
      have e3 := ex0_upd (K := Γ.K) (m := m2) (u := .dK [(Sum.inr x, w)]) f1 (fun _ z => nomatch z) (fun _ _ z => nomatch z)
      have hr := rel2.adopt (o := .dct ((([x] : List Str).map Sum.inr).zip [d])) np e3 ⟨[(Sum.inr x, w)], upd_same, rfl, VRs.mono0 e3 [d] [w] (VRs.cons hw VRs.nil)⟩
      exact post_ok p (Ext.adopt rel hq e2 f1 (fun _ z => nomatch z) (fun _ _ z => nomatch z)) hr ⟨q, rfl, by rw [← rel2.len]; exact alloc_get q⟩
end
end Mi

end
section
set_option Elab.async false
set_option linter.all false
set_option maxRecDepth 100000
set_option maxHeartbeats 1000000
/-! What a loop or a comprehension walks. -/
namespace Mi
open PySem L2 PySem.Spec PyProof.Rows
/-- the iterator goes through these items, as long as the list that they lie in stays -/
def Walk (K : PySem.W.Frag) (J : It) (xs : List D) (g : Option Nat) (m : List Addr) (H : Hp) : Prop :=
  ∀ m' H' S', Ext K m H m' H' → Rel K m' S' H' → still g xs S' = true → ∀ i : Nat, (∀ d, xs[i]? = some d → J.go i H' ∧ ∀ x H'', J.yld i H' x H'' → H'' = H' ∧ VR K m' H' d x) ∧ (xs.length ≤ i → J.stop i H')
def PostI (K : PySem.W.Frag) (XR : List Addr → Hp → Value → Option Addr → Nat → D → Prop) (E : XK) (m : List Addr) (H : Hp) (r : R (List D × Option Nat)) (Q : It → Hp → Prop) : Prop := match r with
  | .ok a S' => ∀ J H' m', Ext K m H m' H' → Rel K m' S' H' → Walk K J a.1 a.2 m' H' → still a.2 a.1 S' = true → Q J H'
  | .ex c dv S' => PostX K XR E m H c dv S'
def RefI (K : PySem.W.Frag) (XR : List Addr → Hp → Value → Option Addr → Nat → D → Prop) (E : XK) (wi : TI) (f : Loc → Sto → Option (R (List D × Option Nat))) : Prop :=
  ∀ m H S ρ σ r Q, Rel K m S H → VO K m H ρ σ → f ρ S = some r → PostI K XR E m H r Q → wi σ H Q
section
variable {X : Cx} {tg : Expr}
def iSeq (K : PySem.W.Frag) (tl : TE) : TI := fun σ H R => tl σ H fun x H1 => ∃ a, x = .ref a ∧ (((∃ xs, SqL K H1 a xs) ∧ R (Itl K a) H1) ∨ ((∃ xs, SqT K H1 a xs) ∧ R (Itt K a) H1))
theorem pi_seq {l : Expr} {tl : TE} (hl : PE X l tl) : PI X tg l (iSeq X.K tl) := by
  refine ⟨fun pins s σ H R I h => ?_⟩
  refine thn (hl.run pins s σ H _ I h) fun v s1 ⟨x, H1, I1, r1, q1⟩ => ?_
  obtain ⟨a, e, q⟩ := q1
  subst e
  cases r1
  rcases q with ⟨⟨xs, hq⟩, q⟩ | ⟨⟨xs, hq⟩, q⟩
  · obtain ⟨its, rv, p, hz⟩ := I1.list hq
    exact wpAny_pyIter_list p.isList (pi_one (tk := s1.toks) I1 _ (turn_list a _) ⟨_, Heap.get?_push_size _ rfl, rfl, rfl⟩ q)
  · obtain ⟨its, rv, p, hz⟩ := I1.tuple hq
    exact wpAny_pyIter_tuple (show s1.heap.IsTuple a its.toArray from p) (pi_one (tk := s1.toks) I1 _ (turn_tuple a _) ⟨_, Heap.get?_push_size _ rfl, rfl, rfl⟩ q)
end
section
variable {K : PySem.W.Frag} {m : List Addr} {H : Hp} {S : Sto}
theorem walk_r1 (a b : Int) : Walk K (Itr a (b - a).toNat) (rgD a b) none m H := by
  intro m' H' S' e rel hs i
  have hl : (rgD a b).length = (b - a).toNat := by unfold rgD; simp
  refine ⟨fun d hd => ?_, fun h => by rw [hl] at h; exact h⟩
  have hi : i < (b - a).toNat := by rw [← hl]; exact (List.getElem?_eq_some_iff.mp hd).1
  have e1 : d = .int (a + (i : Int)) := by
    unfold rgD at hd
    rw [List.getElem?_map, List.getElem?_range hi] at hd
    cases hd; rfl
  subst e1
  exact ⟨hi, fun x H'' y => ⟨y.1, y.2⟩⟩
theorem walk_rc (a c : Int) (n : Nat) : Walk K (Itc a c n) ((List.range n).map fun (i : Nat) => D.int (a + (i : Int) * c)) none m H := by
  intro m' H' S' e rel hs i
  refine ⟨fun d hd => ?_, fun h => (show n ≤ i by simpa using h)⟩
  have hi : i < n := by simpa using (List.getElem?_eq_some_iff.mp hd).1
  have e1 : d = .int (a + (i : Int) * c) := by
    rw [List.getElem?_map, List.getElem?_range hi] at hd
    cases hd; rfl
  subst e1
  exact ⟨hi, fun x H'' y => ⟨y.1, y.2⟩⟩
theorem walk_l {a : Addr} {xs : List D} {g : Option Nat} (h : ∀ m' H' S', Ext K m H m' H' → Rel K m' S' H' → still g xs S' = true → ∃ vs, SqL K H' a vs ∧ VRs K m' H' xs vs) : Walk K (Itl K a) xs g m H := by
  intro m' H' S' e rel hs i
  obtain ⟨vs, h1, h2⟩ := h m' H' S' e rel hs
  refine ⟨fun d hd => ?_, fun hi => ⟨vs, h1, by rw [h2.length]; exact hi⟩⟩
  obtain ⟨v, h3, h4⟩ := h2.get hd
  refine ⟨⟨vs, v, h1, h3⟩, fun x H'' y => ⟨y.1, ?_⟩⟩
  have z := y.2 vs h1
  rw [h3] at z
  cases z
  exact h4
theorem walk_t {a : Addr} {xs : List D} {g : Option Nat} {vs : List V} (h1 : SqT K H a vs) (h2 : VRs K m H xs vs) : Walk K (Itt K a) xs g m H := by
  intro m' H' S' e rel hs i
  have h1 := e.tup a vs h1
  have h2 := VRs.mono e _ _ h2
  refine ⟨fun d hd => ?_, fun hi => ⟨vs, h1, by rw [h2.length]; exact hi⟩⟩
  obtain ⟨v, h3, h4⟩ := h2.get hd
  refine ⟨⟨vs, v, h1, h3⟩, fun x H'' y => ⟨y.1, ?_⟩⟩
  have z := y.2 vs h1
  rw [h3] at z
  cases z
  exact h4
theorem still_refl {r : Nat} {xs : List D} {S : Sto} (h : lstAt S r = some xs) : still (some r) xs S = true := by
  show (match lstAt S r with
    | some ys => D.beqs xs ys
    | none => false) = true
  rw [h]
  exact D.beqs_refl xs
theorem still_some {r : Nat} {xs : List D} {S : Sto} (h : still (some r) xs S = true) : lstAt S r = some xs := by
  have h : (match lstAt S r with
    | some ys => D.beqs xs ys
    | none => false) = true := h
  split at h
  · rename_i ys q
    rw [q, D.beqs_eq _ _ h]
  · cases h
theorem ref_seq {XR : List Addr → Hp → Value → Option Addr → Nat → D → Prop} {E : XK} {t : TE} {f : Loc → Sto → Option (R D)} (h : RefE K XR E t f) :
    RefI K XR E (iSeq K t) (fun ρ S => bnd (bnd (f ρ S) fun d S1 => some (.ok [d] S1)) fun ds S1 => (itD S1 .seq ds).map fun q => .ok q S1) := by
  intro m H S ρ σ rr Q rel vo hf p
  dsimp only at hf
  cases q : f ρ S with
  | none => rw [q] at hf; cases hf
  | some r1 =>
    refine h m H S ρ σ r1 _ rel vo q ?_
    rw [q] at hf
    cases r1 with
    | ex c dv S1 => cases hf; exact p
    | ok d S1 =>
      intro v H1 m1 e1 rel1 hv
      have hf : (itD S1 .seq [d]).map (fun q => R.ok q S1) = some rr := hf
      obtain ⟨w, g1, g2⟩ := map_some hf
      subst g2
      cases d with
      | tup ds =>
        cases g1
        obtain ⟨a, xs, e2, h1, h2⟩ := hv
        exact ⟨a, e2, .inr ⟨⟨xs, h1⟩, p _ H1 m1 e1 rel1 (walk_t h1 h2) rfl⟩⟩
      | frz ds =>
        cases g1
        obtain ⟨a, xs, e2, h1, h2⟩ := hv
        exact ⟨a, e2, .inl ⟨⟨xs, h1.sql⟩, p _ H1 m1 e1 rel1 (walk_l fun m' H' S' e rel' hs => ⟨xs, (e.fz a xs h1).sql, VRs.mono e _ _ h2⟩) rfl⟩⟩
      | ref n =>
        obtain ⟨ds, g3, g4⟩ := map_some (show (lstAt S1 n).map (fun xs => (xs, some n)) = some w from g1)
        subst g4
        obtain ⟨a, e2, h1⟩ := hv
        obtain ⟨xs, h2, h3⟩ := rel1.lst h1 (lstAt_some g3)
        refine ⟨a, e2, .inl ⟨⟨xs, SqL.of h2⟩, p _ H1 m1 e1 rel1 (walk_l fun m' H' S' e rel' hs => ?_) (still_refl g3)⟩⟩
        obtain ⟨ys, h4, h5⟩ := rel'.lst (e.pre n a h1) (lstAt_some (still_some hs))
        exact ⟨ys, SqL.of h4, h5⟩
      | _ => cases g1
theorem ref_rng1 {XR : List Addr → Hp → Value → Option Addr → Nat → D → Prop} {E : XK} {t : TA} {f : Loc → Sto → Option (R (List D))} (h : RefA K XR E t f) :
    RefI K XR E (iRng1 t) (fun ρ S => bnd (f ρ S) fun ds S1 => (itD S1 .rng1 ds).map fun q => .ok q S1) := by
  intro m H S ρ σ rr Q rel vo hf p
  dsimp only at hf
  cases q : f ρ S with
  | none => rw [q] at hf; cases hf
  | some r1 =>
    refine h m H S ρ σ r1 _ rel vo q ?_
    rw [q] at hf
    cases r1 with
    | ex c dv S1 => cases hf; exact p
    | ok ds S1 =>
      intro vs H1 m1 e1 rel1 hv
      have hf : (itD S1 .rng1 ds).map (fun q => R.ok q S1) = some rr := hf
      obtain ⟨w, g1, g2⟩ := map_some hf
      subst g2
      match ds, g1, hv with
      | [.int b], g1, hv =>
        obtain ⟨v, e2, h1⟩ := hv.one
        have h1 : v = .int b := h1
        subst h1 e2
        obtain ⟨g3, g4⟩ := if_some (show (if -(2 ^ 62) ≤ b ∧ b < 2 ^ 62 then some (rgD 0 b, (none : Option Nat)) else none) = some w from g1)
        subst g4
        refine ⟨b, rfl, g3.1, g3.2, p _ H1 m1 e1 rel1 ?_ rfl⟩
        have z := walk_r1 (K := K) (m := m1) (H := H1) 0 b
        rw [Int.sub_zero] at z
        exact z
theorem ref_rng2 {XR : List Addr → Hp → Value → Option Addr → Nat → D → Prop} {E : XK} {t : TA} {f : Loc → Sto → Option (R (List D))} (h : RefA K XR E t f) :
    RefI K XR E (iRng2 t) (fun ρ S => bnd (f ρ S) fun ds S1 => (itD S1 .rng2 ds).map fun q => .ok q S1) := by
  intro m H S ρ σ rr Q rel vo hf p
  dsimp only at hf
  cases q : f ρ S with
  | none => rw [q] at hf; cases hf
  | some r1 =>
    refine h m H S ρ σ r1 _ rel vo q ?_
    rw [q] at hf
    cases r1 with
    | ex c dv S1 => cases hf; exact p
    | ok ds S1 =>
      intro vs H1 m1 e1 rel1 hv
      have hf : (itD S1 .rng2 ds).map (fun q => R.ok q S1) = some rr := hf
      obtain ⟨w, g1, g2⟩ := map_some hf
      subst g2
      match ds, g1, hv with
      | [.int a, .int b], g1, hv =>
        obtain ⟨v, v2, e2, h1, h2⟩ := hv.two
        have h1 : v = .int a := h1
        have h2 : v2 = .int b := h2
        subst h1 h2 e2
        obtain ⟨g3, g4⟩ := if_some (show (if -(2 ^ 62) ≤ a ∧ a < 2 ^ 62 ∧ -(2 ^ 62) ≤ b ∧ b < 2 ^ 62 then some (rgD a b, (none : Option Nat)) else none) = some w from g1)
        subst g4
        exact ⟨a, b, rfl, g3, p _ H1 m1 e1 rel1 (walk_r1 a b) rfl⟩
theorem rgc_of {a b c : Int} {n : Nat} (h : rngN a b c = some n) : RgC a b c n := by
  obtain ⟨⟨c0, a1, a2, b1, b2, c2⟩, e⟩ := if_some h
  subst e
  have hn : Builtin.Range.rangeSize a b c = (((b - a + c - 1) / c).toNat : Int) := by
    unfold Builtin.Range.rangeSize
    rw [if_pos (by omega)]
    by_cases hab : a < b
    · rw [if_pos hab]
      have e1 : b - a + c - 1 = (b - a - 1) + c := by omega
      have e2 : (b - a + c - 1) / c = (b - a - 1) / c + 1 := by
        rw [e1, Int.add_ediv_of_dvd_right (Int.dvd_refl c), Int.ediv_self (by omega)]
      have e3 : 0 ≤ (b - a - 1) / c := Int.ediv_nonneg (by omega) (by omega)
      rw [e2]
      omega
    · rw [if_neg hab]
      have e1 : (b - a + c - 1) / c ≤ 0 := by
        have : (b - a + c - 1) / c < 1 := Int.ediv_lt_of_lt_mul (by omega) (by omega)
        omega
      omega
  refine ⟨by omega, by omega, ?_, hn⟩
  have e4 : ((b - a + c - 1) / c) ≤ 2 ^ 63 - 1 ∧ -1 < ((b - a + c - 1) / c) + 2 ^ 63 := by
    constructor
    · by_cases z : 1 ≤ b - a
      · have h1 : 0 ≤ (b - a - 1) * (c - 1) := Int.mul_nonneg (by omega) (by omega)
        have h2 : (b - a - 1) * (c - 1) = (b - a) * c - (b - a + c - 1) := by
          rw [Int.sub_mul, Int.mul_sub]
          omega
        have h3 : (b - a + c - 1) / c ≤ b - a := Int.ediv_le_of_le_mul c0 (by omega)
        omega
      · have : (b - a + c - 1) / c < 1 := Int.ediv_lt_of_lt_mul (by omega) (by omega)
        omega
    · have : -(2 ^ 63) ≤ (b - a + c - 1) / c := by
        rw [Int.le_ediv_iff_mul_le c0]
        have : (2 ^ 63 : Int) * 1 ≤ 2 ^ 63 * c := Int.mul_le_mul_of_nonneg_left (by omega) (by decide)
        omega
      omega
  unfold Builtin.Range.small
  rw [hn]
  unfold Builtin.Range.rangeFitsLong
  simp only [Bool.and_eq_true, Bool.or_eq_true, decide_eq_true_eq, beq_iff_eq]
  have : c > 0 := by omega
  simp only [this, if_true]
  refine ⟨?_, ?_⟩
  all_goals first | omega | (simp; omega)
theorem ref_rng3 {XR : List Addr → Hp → Value → Option Addr → Nat → D → Prop} {E : XK} {t : TA} {f : Loc → Sto → Option (R (List D))} (h : RefA K XR E t f) :
    RefI K XR E (iRng3 t) (fun ρ S => bnd (f ρ S) fun ds S1 => (itD S1 .rng3 ds).map fun q => .ok q S1) := by
  intro m H S ρ σ rr Q rel vo hf p
  dsimp only at hf
  cases q : f ρ S with
  | none => rw [q] at hf; cases hf
  | some r1 =>
    refine h m H S ρ σ r1 _ rel vo q ?_
    rw [q] at hf
    cases r1 with
    | ex c dv S1 => cases hf; exact p
    | ok ds S1 =>
      intro vs H1 m1 e1 rel1 hv
      have hf : (itD S1 .rng3 ds).map (fun q => R.ok q S1) = some rr := hf
      obtain ⟨w, g1, g2⟩ := map_some hf
      subst g2
      match ds, g1, hv with
      | [.int a, .int b, .int c], g1, hv =>
        obtain ⟨v, v2, v3, e2, h1, h2, h3⟩ := hv.three
        have h1 : v = .int a := h1
        have h2 : v2 = .int b := h2
        have h3 : v3 = .int c := h3
        subst h1 h2 h3 e2
        obtain ⟨n, g3, g4⟩ := map_some (show (rngN a b c).map (fun n => ((List.range n).map fun (i : Nat) => D.int (a + (i : Int) * c), (none : Option Nat))) = some w from g1)
        subst g4
        exact ⟨a, b, c, n, rfl, rgc_of g3, p _ H1 m1 e1 rel1 (walk_rc a c n) rfl⟩
end
section
variable {Γ : Gm} {n : Nat} {N : List Str} {sc : Scope} {X : Cx}
/-- what is walked, shown -/
def SndI (Γ : Gm) (n : Nat) (N : List Str) (sc : Scope) (pe : Expr) (f : Loc → Sto → Option (R (List D × Option Nat))) : Prop := ∀ E : XK, ∃ t, (∀ X tg, Good Γ n N sc X → Passes (L2.CX Γ.P Γ.w) X E → PI X tg pe t) ∧ RefI Γ.K Γ.XR E t f
theorem snd_seq {pe : Expr} {f : Loc → Sto → Option (R D)} (h : SndE Γ n N sc pe f) : SndI Γ n N sc pe (fun ρ S => bnd (bnd (f ρ S) fun d S1 => some (.ok [d] S1)) fun ds S1 => (itD S1 .seq ds).map fun q => .ok q S1) := fun E => by
  obtain ⟨t, h1, h2⟩ := h E
  refine ⟨iSeq Γ.K t, fun X tg gd hx => ?_, ref_seq h2⟩
  have z := pi_seq (tg := tg) (h1 X gd hx)
  rw [gd.K] at z
  exact z
theorem snd_irng1 (F : Γ.Facts) {a : Expr} {p pos : Pos} {f : Loc → Sto → Option (R (List D))} (ha : SndA Γ n N sc [a] f) (s1 : isStar a = false) (hg : isGlb (sc.names.lookup ("range" : Str)) = true) :
    SndI Γ n N sc (.Call (.Name "range" p) [a] [] pos) (fun ρ S => bnd (f ρ S) fun ds S1 => (itD S1 .rng1 ds).map fun q => .ok q S1) := fun E => by
  obtain ⟨t, h1, h2⟩ := ha E
  refine ⟨iRng1 t, fun X tg gd hx => ?_, ref_rng1 h2⟩
  have hm : X.mg "range" = none := by rw [gd.mg]; exact F.free _ (by decide +kernel)
  exact pi_range1 (gd.gl hg) hm (h1 X gd hx) (star_cons s1)
theorem snd_irng2 (F : Γ.Facts) {a b : Expr} {p pos : Pos} {f : Loc → Sto → Option (R (List D))} (ha : SndA Γ n N sc [a, b] f) (s1 : isStar a = false) (s2 : isStar b = false) (hg : isGlb (sc.names.lookup ("range" : Str)) = true) :
    SndI Γ n N sc (.Call (.Name "range" p) [a, b] [] pos) (fun ρ S => bnd (f ρ S) fun ds S1 => (itD S1 .rng2 ds).map fun q => .ok q S1) := fun E => by
  obtain ⟨t, h1, h2⟩ := ha E
  refine ⟨iRng2 t, fun X tg gd hx => ?_, ref_rng2 h2⟩
  have hm : X.mg "range" = none := by rw [gd.mg]; exact F.free _ (by decide +kernel)
  exact pi_range2 (gd.gl hg) hm (h1 X gd hx) ((star_cons s1).trans (by rw [star_cons s2]; rfl)) ((star_cons s2).trans rfl)
theorem snd_irng3 (F : Γ.Facts) {a b c : Expr} {p pos : Pos} {f : Loc → Sto → Option (R (List D))} (ha : SndA Γ n N sc [a, b, c] f) (s1 : isStar a = false) (s2 : isStar b = false) (s3 : isStar c = false) (hg : isGlb (sc.names.lookup ("range" : Str)) = true) :
    SndI Γ n N sc (.Call (.Name "range" p) [a, b, c] [] pos) (fun ρ S => bnd (f ρ S) fun ds S1 => (itD S1 .rng3 ds).map fun q => .ok q S1) := fun E => by
  obtain ⟨t, h1, h2⟩ := ha E
  refine ⟨iRng3 t, fun X tg gd hx => ?_, ref_rng3 h2⟩
  have hm : X.mg "range" = none := by rw [gd.mg]; exact F.free _ (by decide +kernel)
  refine pi_range3 (gd.gl hg) hm (h1 X gd hx) (star_cons s1) (star_any fun y hy => ?_)
  rcases List.mem_cons.mp hy with z | z
  · rw [z]; exact s2
  · have : y = c := by simpa using z
    rw [this]; exact s3
end
end Mi

end
section
set_option Elab.async false
set_option linter.all false
set_option maxRecDepth 100000
set_option maxHeartbeats 1000000
/-! Comprehensions. -/
namespace Mi
open PySem L2 PySem.Spec PyProof.Rows
section
variable {K : PySem.W.Frag} {m : List Addr} {H : Hp} {S : Sto} {ρ : Loc} {σ : L2.St}
theorem VO.put (h : VO K m H ρ σ) {d : D} {v : V} (r : VR K m H d v) (i : Nat) : VO K m H (ρ.set i (some d)) (σ.set i (some v)) := by
  refine ⟨by rw [List.length_set, List.length_set]; exact h.len, fun j e q => ?_⟩
  by_cases hj : i = j
  · subst hj
    have hl : i < ρ.length := by
      have := (List.getElem?_eq_some_iff.mp q).1
      simpa using this
    rw [List.getElem?_set_self hl] at q
    cases q
    exact ⟨v, List.getElem?_set_self (by rw [← h.len]; exact hl), r⟩
  · rw [List.getElem?_set_ne hj] at q
    obtain ⟨w, h1, h2⟩ := h.at_ j e q
    exact ⟨w, by rw [List.getElem?_set_ne hj]; exact h1, h2⟩
theorem VO.gone (h : VO K m H ρ σ) (i : Nat) : VO K m H (ρ.set i none) (σ.set i none) := by
  refine ⟨by rw [List.length_set, List.length_set]; exact h.len, fun j e q => ?_⟩
  by_cases hj : i = j
  · subst hj
    have hl : i < ρ.length := by
      have := (List.getElem?_eq_some_iff.mp q).1
      simpa using this
    rw [List.getElem?_set_self hl] at q
    cases q
  · rw [List.getElem?_set_ne hj] at q
    obtain ⟨w, h1, h2⟩ := h.at_ j e q
    exact ⟨w, by rw [List.getElem?_set_ne hj]; exact h1, h2⟩
theorem VO.wiped (h : VO K m H ρ σ) : ∀ vs : List Nat, VO K m H (wipeD ρ vs) (wipe σ vs)
  | [] => h
  | v :: vs => (VO.wiped h vs).gone v
theorem wipe_get (σ : L2.St) (j : Nat) : ∀ vs : List Nat, (wipe σ vs)[j]? = if j ∈ vs then (σ[j]?).map (fun _ => none) else σ[j]?
  | [] => by simp [wipe]
  | v :: vs => by
    have ih := wipe_get σ j vs
    show ((wipe σ vs).set v none)[j]? = _
    by_cases hj : v = j
    · subst hj
      rw [if_pos List.mem_cons_self, List.getElem?_set]
      rw [if_pos rfl, wipe_length]
      by_cases hl : v < σ.length
      · rw [if_pos hl, List.getElem?_eq_getElem hl]; rfl
      · rw [if_neg hl, List.getElem?_eq_none (by omega)]; rfl
    · rw [List.getElem?_set_ne hj, ih]
      by_cases hm : j ∈ vs
      · rw [if_pos hm, if_pos (List.mem_cons_of_mem _ hm)]
      · rw [if_neg hm, if_neg fun z => (List.mem_cons.mp z).elim (fun e => hj e.symm) hm]
theorem wipe_put {vs : List Nat} {i : Nat} (hi : i ∈ vs) (x : Option V) : wipe ((wipe σ vs).set i x) vs = wipe σ vs := by
  refine List.ext_getElem? fun j => ?_
  rw [wipe_get, wipe_get]
  by_cases hm : j ∈ vs
  · rw [if_pos hm, if_pos hm, List.getElem?_set]
    by_cases hj : i = j
    · subst hj
      rw [if_pos rfl, wipe_length]
      by_cases hl : i < σ.length
      · rw [if_pos hl, List.getElem?_eq_getElem hl]; rfl
      · rw [if_neg hl, List.getElem?_eq_none (by omega)]
    · rw [if_neg hj, wipe_get, if_pos hm]
      cases σ[j]? <;> rfl
  · rw [if_neg hm, if_neg hm, List.getElem?_set_ne (fun e => by subst e; exact hm hi), wipe_get, if_neg hm]
/-- an own list that grows -/
theorem own_grow {p : Addr} {u w : HO} (rel : Rel K m S H) (h : H p = some w) (np : p ∉ m) (h1 : ∀ xs, w ≠ .tup xs) (h2 : ∀ ob x, w ≠ .frz ob x) : Ex0 K m H m (upd H p u) ∧ Rel K m S (upd H p u) := by
  have e : Ex0 K m H m (upd H p u) := by
    have z := ex0_upd (K := K) (m := m) (u := u) h h1 h2
    exact ⟨fun _ _ q => q, z.tup, z.fz⟩
  exact ⟨e, rel.len, rel.inj, fun n a o g1 g2 => OR.mono0 e (upd_ne fun z => np (z ▸ List.mem_of_getElem? g1)) (rel.obj n a o g1 g2)⟩
end
theorem if_some' {α : Type} {c : Prop} [Decidable c] {x : Option α} {y : α} (h : (if c then x else none) = some y) : c ∧ x = some y := by
  split at h
  · rename_i z; exact ⟨z, h⟩
  · cases h
abbrev E0 : XK := fun _ _ _ => False
theorem pass_blk {P : Program} {w : World} {X : Cx} : Passes (L2.CX P w) X E0 := by
  intro pins σ H s e s' I c
  obtain ⟨_, _, _, _, _, _, _, _, _, _, _, _, z⟩ := c
  exact z.elim
/-- what a target does -/
def RefG (K : PySem.W.Frag) (g : TG) (t : Tg) : Prop := ∀ m H S ρ σ d v ρ' (Q : L2.St → Hp → Prop), Rel K m S H → VO K m H ρ σ → VR K m H d v → setT ρ t d = some ρ' →
  (∀ σ', VO K m H ρ' σ' → (∀ vs : List Nat, (∀ i ∈ t.ix, i ∈ vs) → wipe σ' vs = wipe σ vs) → Q σ' H) → g v σ H Q
theorem wipe_set {σ : L2.St} {vs : List Nat} {i : Nat} (hi : i ∈ vs) (x : Option V) : wipe (σ.set i x) vs = wipe σ vs := by
  refine List.ext_getElem? fun j => ?_
  rw [wipe_get, wipe_get]
  by_cases hm : j ∈ vs
  · rw [if_pos hm, if_pos hm, List.getElem?_set]
    by_cases hj : i = j
    · subst hj
      rw [if_pos rfl]
      by_cases hl : i < σ.length
      · rw [if_pos hl, List.getElem?_eq_getElem hl]; rfl
      · rw [if_neg hl, List.getElem?_eq_none (by omega)]
    · rw [if_neg hj]
  · rw [if_neg hm, if_neg hm, List.getElem?_set_ne (fun e => by subst e; exact hm hi)]
theorem wipe_wipe {σ : L2.St} (vs : List Nat) : wipe (wipe σ vs) vs = wipe σ vs := by
  refine List.ext_getElem? fun j => ?_
  rw [wipe_get, wipe_get]
  by_cases hm : j ∈ vs
  · rw [if_pos hm, if_pos hm]
    cases σ[j]? <;> rfl
  · rw [if_neg hm, if_neg hm]
theorem refG_one {K : PySem.W.Frag} {i : Nat} : RefG K (gName i) (.one i) := by
  intro m H S ρ σ d v ρ' Q rel vo hv h q
  have h : some (ρ.set i (some d)) = some ρ' := h
  cases h
  exact q _ (vo.put hv i) fun vs hi => wipe_set (hi i List.mem_cons_self) _
def gNames : List Nat → TGs
  | [] => gNil
  | i :: is => gCons (gName i) (gNames is)
theorem refG_names {K : PySem.W.Frag} {m : List Addr} {H : Hp} : ∀ {is : List Nat} {ds : List D} {vs : List V} {ρ : Loc} {σ : L2.St} {Q : L2.St → Hp → Prop}, VO K m H ρ σ → VRs K m H ds vs → ds.length = is.length →
    (∀ σ', VO K m H (setAll ρ is ds) σ' → (∀ ws : List Nat, (∀ i ∈ is, i ∈ ws) → wipe σ' ws = wipe σ ws) → Q σ' H) → gNames is vs σ H Q
  | [], [], vs, ρ, σ, Q, vo, hv, hl, q => ⟨hv, q _ vo fun _ _ => rfl⟩
  | [], _ :: _, vs, ρ, σ, Q, vo, hv, hl, q => by simp at hl
  | _ :: _, [], vs, ρ, σ, Q, vo, hv, hl, q => by simp at hl
  | i :: is, d :: ds, vs, ρ, σ, Q, vo, hv, hl, q => by
    obtain ⟨v, ws, e, h1, h2⟩ := hv
    refine ⟨v, ws, e, ?_⟩
    show gNames is ws (σ.set i (some v)) H Q
    refine refG_names (vo.put h1 i) h2 (by simpa using hl) fun σ' vo' hw => q σ' vo' fun zs hz => ?_
    rw [hw zs fun j hj => hz j (List.mem_cons_of_mem _ hj), wipe_set (hz i List.mem_cons_self)]
theorem refG_tup {K : PySem.W.Frag} {is : List Nat} : RefG K (gTup K is.length (gNames is)) (.tup is) := by
  intro m H S ρ σ d v ρ' Q rel vo hv h q
  cases d with
  | tup xs =>
    obtain ⟨hl, h⟩ := if_some (show (if xs.length = is.length then some (setAll ρ is xs) else none) = some ρ' from h)
    subst h
    obtain ⟨a, ws, e, h1, h2⟩ := hv
    exact ⟨a, ws, e, h1, by rw [h2.length]; exact hl, refG_names vo h2 hl q⟩
  | _ => cases h
theorem ref_lc {K : PySem.W.Frag} {XR : List Addr → Hp → Value → Option Addr → Nat → D → Prop} {E : XK} {wi : TI} {tt : TT} {te : TE} {vs : List Nat} {tgt : Tg} {g0 : TG} {fi : Loc → Sto → Option (R (List D × Option Nat))} {fc : Loc → Sto → Option (R Bool)} {fe : Loc → Sto → Option (R D)}
    (hi : RefI K XR E wi fi) (ht : RefT K XR E0 tt fc) (he : RefE K XR E0 te fe) (hg0 : RefG K g0 tgt) (iv : ∀ i ∈ tgt.ix, i ∈ vs) :
    RefE K XR E (tLc wi g0 tt te vs) (fun ρ S => bnd (fi ρ S) fun q S1 => bnd (noX (compGo (fun y S2 => (setT (wipeD ρ vs) tgt y).bind fun ρ' => fc ρ' S2) (fun y S2 => (setT (wipeD ρ vs) tgt y).bind fun ρ' => fe ρ' S2) (still q.2 q.1) q.1 S1)) fun ys S3 =>
      if ys.length ≤ sizeLine then some (.ok (.ref S3.length) (S3 ++ [.lst ys])) else none) := by
  intro m H S ρ σ rr Q rel vo hf p
  dsimp only at hf
  cases q : fi ρ S with
  | none => rw [q] at hf; cases hf
  | some r1 =>
    refine hi m H S ρ σ r1 _ rel vo q ?_
    rw [q] at hf
    cases r1 with
    | ex c dv S1 => cases hf; exact p
    | ok a S1 =>
      obtain ⟨xs, g⟩ := a
      intro J H1 m1 e1 rel1 wk st Dd hD
      rw [bnd_ok] at hf
      dsimp only at hf
      generalize hcg : compGo (fun y S2 => (setT (wipeD ρ vs) tgt y).bind fun ρ' => fc ρ' S2) (fun y S2 => (setT (wipeD ρ vs) tgt y).bind fun ρ' => fe ρ' S2) (still g xs) = cg at hf
      cases qc : cg xs S1 with
      | none => rw [qc] at hf; cases hf
      | some r2 =>
        rw [qc] at hf
        cases r2 with
        | ex c dv S2 => cases hf
        | ok ys S3 =>
          have hf : (if ys.length ≤ sizeLine then some (R.ok (D.ref S3.length) (S3 ++ [.lst ys])) else none) = some rr := hf
          obtain ⟨hz, hf⟩ := if_some hf
          subst hf
          refine ⟨fun j k H' => k = xs.length - j ∧ j ≤ xs.length ∧ ∃ m' S' ds ws, Ext K m1 H1 m' H' ∧ Rel K m' S' H' ∧ H' Dd = some (.lst ws) ∧ Dd ∉ m' ∧ VRs K m' H' ds ws ∧ still g xs S' = true ∧ ∃ rest, cg (xs.drop j) S' = some (.ok rest S3) ∧ ds ++ rest = ys, ⟨xs.length, ?_⟩, ?_⟩
          · have e := Ext.new (o := .lst []) rel1 hD [] (by simp)
            rw [List.append_nil] at e
            exact ⟨by simp, Nat.zero_le _, m1, S1, [], [], e, ⟨rel1.len, rel1.inj, fun n a o g1 g2 => OR.mono e (upd_ne fun z => rel1.fresh hD (z ▸ List.mem_of_getElem? g1)) (rel1.obj n a o g1 g2)⟩, upd_same, rel1.fresh hD, VRs.nil, st, ys, qc, rfl⟩
          · rintro j k H' ⟨rfl, hj, m', S', ds, ws, e, rel', hDd, nD, hv, st', rest, hr, hys⟩
            have w := wk m' H' S' e rel' st' j
            by_cases hlt : j < xs.length
            · refine .inr ⟨(w.1 _ (List.getElem?_eq_getElem hlt)).1, fun H'' => j + 1 ≤ xs.length ∧ ∃ m' S' ds ws, Ext K m1 H1 m' H'' ∧ Rel K m' S' H'' ∧ H'' Dd = some (.lst ws) ∧ Dd ∉ m' ∧ VRs K m' H'' ds ws ∧ still g xs S' = true ∧ ∃ rest, cg (xs.drop (j + 1)) S' = some (.ok rest S3) ∧ ds ++ rest = ys, fun H'' z => ⟨xs.length - (j + 1), by omega, rfl, z⟩, fun x H'' y => ?_⟩
              obtain ⟨e2, hx⟩ := (w.1 _ (List.getElem?_eq_getElem hlt)).2 x H'' y
              subst e2
              rw [List.drop_eq_getElem_cons hlt, ← hcg, compGo, hcg] at hr
              cases qs : setT (wipeD ρ vs) tgt xs[j] with
              | none => rw [qs] at hr; cases hr
              | some ρ2 =>
              rw [qs] at hr
              simp only [Option.bind_some] at hr
              refine hg0 m' H'' S' _ _ _ _ ρ2 _ rel' (((vo.mono e1).mono e).wiped vs) hx qs fun σ2 vo' hw => ?_
              refine ⟨(hw vs iv).trans (wipe_wipe vs), ?_⟩
              cases q1 : fc ρ2 S' with
              | none => rw [q1] at hr; cases hr
              | some r3 =>
                rw [q1] at hr
                cases r3 with
                | ex c dv S4 => cases hr
                | ok b S4 =>
                  refine ht m' H'' S' _ _ _ _ rel' vo' q1 ?_
                  intro b' H3 m3 e3 rel3 hb
                  have hb : b' = b := hb
                  subst hb
                  obtain ⟨hD3, nD3⟩ := e3.frm Dd _ hDd nD
                  rw [bnd_ok] at hr
                  cases b' with
                  | false =>
                    rw [if_neg Bool.false_ne_true] at hr ⊢
                    obtain ⟨st3, hr⟩ := if_some' hr
                    exact ⟨hlt, m3, S4, ds, ws, e.trans e3, rel3, hD3, nD3, VRs.mono e3 _ _ hv, st3, rest, hr, hys⟩
                  | true =>
                    rw [if_pos rfl] at hr ⊢
                    cases q2 : fe ρ2 S4 with
                    | none => rw [q2] at hr; cases hr
                    | some r4 =>
                      rw [q2] at hr
                      cases r4 with
                      | ex c dv S5 => cases hr
                      | ok d S5 =>
                        refine he m3 H3 S4 _ _ _ _ rel3 (vo'.mono e3) q2 ?_
                        intro y H4 m4 e4 rel4 hy
                        obtain ⟨hD4, nD4⟩ := e4.frm Dd _ hD3 nD3
                        rw [bnd_ok] at hr
                        obtain ⟨st4, hr⟩ := if_some' hr
                        cases q3 : cg (xs.drop (j + 1)) S5 with
                        | none => rw [q3] at hr; cases hr
                        | some r5 =>
                          rw [q3] at hr
                          cases r5 with
                          | ex c dv S6 => cases hr
                          | ok rest' S6 =>
                            have hr : some (R.ok (d :: rest') S6) = some (R.ok rest S3) := hr
                            cases hr
                            have hl := hv.length
                            have hl2 : ds.length + (rest'.length + 1) = ys.length := by rw [← hys]; simp
                            have e34 := e3.trans e4
                            refine ⟨ws, hD4, by omega, ?_⟩
                            obtain ⟨x0, rel5⟩ := own_grow (u := .lst (ws ++ [y])) rel4 hD4 nD4 (fun _ z => nomatch z) (fun _ _ z => nomatch z)
                            have et := e.trans e34
                            refine ⟨hlt, m4, S5, ds ++ [d], ws ++ [y], ⟨⟨et.pre, fun a xs q => x0.tup a xs (et.tup a xs q), fun a xs q => x0.fz a xs (et.fz a xs q)⟩, fun a o q na => ?_⟩, rel5, upd_same, nD4, ?_, st4, rest', q3, by rw [← hys]; simp⟩
                            · obtain ⟨g1, g2⟩ := et.frm a o q na
                              exact ⟨by rw [upd_ne (fun z => by subst z; rw [hD] at q; cases q)]; exact g1, g2⟩
                            · exact VRs.mono0 x0 _ _ ((VRs.mono e34 _ _ hv).append (VRs.cons hy VRs.nil))
            · have ej : j = xs.length := by omega
              subst ej
              refine .inl ⟨w.2 (Nat.le_refl _), ?_⟩
              rw [List.drop_length, ← hcg, compGo] at hr
              cases hr
              rw [List.append_nil] at hys
              subst hys
              have eu : upd H' Dd (.lst ws) = H' := by
                funext b
                by_cases hb : b = Dd
                · subst hb; rw [upd_same]; exact hDd.symm
                · rw [upd_ne hb]
              have x0 := ex0_upd (K := K) (m := m') (u := .lst ws) hDd (fun _ z => nomatch z) (fun _ _ z => nomatch z)
              rw [eu] at x0
              have hA : Rel K (m' ++ [Dd]) (S3 ++ [.lst ds]) H' := by
                have z := rel'.adopt (u := .lst ws) (o := .lst ds) nD (by rw [eu]; exact x0) ⟨ws, upd_same, by rw [eu]; exact VRs.mono0 x0 _ _ hv⟩
                rw [eu] at z
                exact z
              refine p (.ref Dd) H' (m' ++ [Dd]) (e1.trans ⟨⟨fun a b q => x0.pre a b (e.pre a b q), fun a b q => x0.tup a b (e.tup a b q), fun a b q => x0.fz a b (e.fz a b q)⟩, fun a o q na => ?_⟩) hA ⟨Dd, rfl, by rw [← rel'.len]; exact alloc_get Dd⟩
              obtain ⟨g1, g2⟩ := e.frm a o q na
              exact ⟨g1, fun z => (List.mem_append.mp z).elim g2 fun z => by
                have z : a = Dd := by simpa using z
                subst z
                rw [hD] at q; cases q⟩
section
variable {Γ : Gm} {n : Nat} {N : List Str} {sc : Scope} {X : Cx}
theorem lookup_free {sc : Scope} : ∀ {names : List (Str × NameKind)} {x : Str}, names.lookup x = some .free →
    (names.map fun (n, k) => if (k == NameKind.free && sc.kind == .function && sc.names.lookup n == some .cell) then (n, NameKind.cell) else (n, k)).lookup x = some .free ∨
    (names.map fun (n, k) => if (k == NameKind.free && sc.kind == .function && sc.names.lookup n == some .cell) then (n, NameKind.cell) else (n, k)).lookup x = some .cell
  | [], _, h => by simp at h
  | (n, k₀) :: r, x, h => by
    have ih := @lookup_free sc r x
    have he : ∀ k, List.lookup x ((if (k₀ == NameKind.free && sc.kind == .function && sc.names.lookup n == some .cell) = true then (n, NameKind.cell) else (n, k₀)) :: (r.map fun (n, k) => if (k == NameKind.free && sc.kind == .function && sc.names.lookup n == some .cell) then (n, NameKind.cell) else (n, k))) = some k → (((n, k₀) :: r).map fun (n, k) => if (k == NameKind.free && sc.kind == .function && sc.names.lookup n == some .cell) then (n, NameKind.cell) else (n, k)).lookup x = some k := fun _ z => z
    cases hx : x == n with
    | true =>
      simp only [List.lookup_cons, hx] at h
      cases h
      by_cases hc : (NameKind.free == NameKind.free && sc.kind == .function && sc.names.lookup n == some .cell) = true
      · refine .inr (he _ ?_)
        rw [if_pos hc]
        simp only [List.lookup_cons, hx]
      · refine .inl (he _ ?_)
        rw [if_neg hc]
        simp only [List.lookup_cons, hx]
    | false =>
      simp only [List.lookup_cons, hx] at h
      have hz : ∀ k, (r.map fun (n, k) => if (k == NameKind.free && sc.kind == .function && sc.names.lookup n == some .cell) then (n, NameKind.cell) else (n, k)).lookup x = some k → (((n, k₀) :: r).map fun (n, k) => if (k == NameKind.free && sc.kind == .function && sc.names.lookup n == some .cell) then (n, NameKind.cell) else (n, k)).lookup x = some k := fun k z => by
        refine he _ ?_
        by_cases hc : (k₀ == NameKind.free && sc.kind == .function && sc.names.lookup n == some .cell) = true
        · rw [if_pos hc]; simp only [List.lookup_cons, hx]; exact z
        · rw [if_neg hc]; simp only [List.lookup_cons, hx]; exact z
      exact (ih h).imp (hz _) (hz _)
theorem Good.blk (g : Good Γ n N sc X) (s : Shared) (H : Hp) (scope : Scope) (C : Addr) (cl : List (Str × Addr)) (fp : List Addr) : Good Γ n N scope (X.blk s H scope (compEnvC scope cl C X.env) fp) where
  prog := g.prog
  w := g.w
  K := g.K
  mg := g.mg
  base := g.base
  N := g.N
  calm := g.calm
  room := g.room
  grd := g.grd
  kd := fun x k h => by
    by_cases hk : k = .free
    · subst hk
      rcases lookup_free (sc := X.env.scope) h with e | e
      · exact .inl e
      · exact .inr ⟨rfl, e⟩
    · exact .inl (lookup_relS_keep (sc := X.env.scope) hk h)
  fn := fun x h => by
    rcases h with h | h
    · exact .inr (lookup_relS_keep (sc := X.env.scope) (fun z => nomatch z) h)
    · refine .inl ?_
      show (scope.names.lookup x == some NameKind.cell) = true
      rw [h]
      rfl
theorem Good.blkOk (g : Good Γ n N sc X) {scope : Scope} {own : List (Str × Nat)} (h : BlkOk N sc scope own) : BlkOk X.N X.env.scope scope own := by
  refine ⟨h.kind, h.uniq, by rw [g.N]; exact h.ix, fun y hy e => ?_, by rw [g.N]; exact h.own⟩
  rcases h.free y hy e with z | z
  · rcases g.kd _ _ z with q | ⟨q, _⟩
    · exact .inl q
    · cases q
  · rcases g.kd _ _ z with q | ⟨_, q⟩
    · exact .inr q
    · exact .inl q
def SndTs (Γ : Gm) (n : Nat) (N : List Str) (sc : Scope) (ifs : List Expr) (f : Loc → Sto → Option (R Bool)) : Prop := ∀ E : XK, ∃ t, (∀ X, Good Γ n N sc X → Passes (L2.CX Γ.P Γ.w) X E → PTs X ifs t) ∧ RefT Γ.K Γ.XR E t f
theorem snd_tsnil : SndTs Γ n N sc [] (fun _ S => some (.ok true S)) := fun E => ⟨tYes, fun X _ _ => pts_nil, fun m H S ρ σ rr Q rel vo hf p => by
  cases hf
  exact post_here p rel rfl⟩
theorem snd_tsone {c : Expr} {f : Loc → Sto → Option (R Bool)} (h : SndT Γ n N sc c f) : SndTs Γ n N sc [c] f := fun E => by
  obtain ⟨t, h1, h2⟩ := h E
  exact ⟨t, fun X g hx => pts_one (h1 X g hx), h2⟩
theorem noset_of {iter : Expr} {env : Env} (h : isSetE iter = false) : ∀ x, foldedSetIterable iter env x = pure x := fun x => by
  cases iter <;> first | rfl | cases h
/-! ### targets -/
def ownSlot (N : List Str) (sc : Scope) (x : Str) (i : Nat) : Bool := decide (N[i]? = some x) && isOwn (sc.names.lookup x)
def chkNs (N : List Str) (sc : Scope) : List Expr → List Nat → Bool
  | [], [] => true
  | e :: es, i :: is => (match e with | .Name x _ => ownSlot N sc x i | _ => false) && chkNs N sc es is
  | _, _ => false
def chkTg (N : List Str) (sc : Scope) (e : Expr) (t : Tg) : Bool := match t with
  | .one i => match e with
    | .Name x _ => ownSlot N sc x i
    | _ => false
  | .tup is => match e with
    | .Tuple es _ _ => chkNs N sc es is
    | _ => false
theorem own_slot {x : Str} {i : Nat} (h : ownSlot N sc x i = true) : N[i]? = some x ∧ isOwn (sc.names.lookup x) = true := by
  unfold ownSlot at h
  simp only [Bool.and_eq_true, decide_eq_true_eq] at h
  exact h
theorem snd_name {x : Str} {i : Nat} {px : Pos} (hN : N.Nodup) (h : ownSlot N sc x i = true) (gd : Good Γ n N sc X) : PG X (.Name x px) (gName i) :=
  pg_name (by rw [gd.N]; exact hN) (by rw [gd.N]; exact (own_slot h).1) (gd.loc (own_slot h).2).1 (gd.loc (own_slot h).2).2
theorem snd_names (hN : N.Nodup) (gd : Good Γ n N sc X) : ∀ {es : List Expr} {is : List Nat}, chkNs N sc es is = true → PGs X es (gNames is) ∧ (assignEach es X.env).length = is.length ∧ ∀ x ∈ assignEach es X.env, x.1 = false
  | [], [], _ => ⟨pgs_nil, rfl, fun x hx => by simp [assignEach] at hx⟩
  | [], _ :: _, h => by cases h
  | _ :: _, [], h => by cases h
  | e :: es, i :: is, h => by
    simp only [chkNs, Bool.and_eq_true] at h
    obtain ⟨h1, h2⟩ := h
    split at h1
    · rename_i x px
      obtain ⟨a1, a2, a3⟩ := snd_names hN gd h2
      refine ⟨pgs_cons (snd_name hN h1 gd) a1 rfl, by simp [assignEach, a2], fun y hy => ?_⟩
      rcases List.mem_cons.mp (show y ∈ (false, assign (.Name x px) X.env) :: assignEach es X.env from hy) with z | z
      · rw [z]
      · exact a3 y z
    · cases h1
theorem snd_tg (hN : N.Nodup) {e : Expr} {t : Tg} (h : chkTg N sc e t = true) : ∃ g, (∀ X, Good Γ n N sc X → PG X e g) ∧ RefG Γ.K g t := by
  unfold chkTg at h
  split at h
  · split at h
    · exact ⟨_, fun X gd => snd_name hN h gd, refG_one⟩
    · cases h
  · rename_i is
    split at h
    · rename_i es j p
      refine ⟨gTup Γ.K is.length (gNames is), fun X gd => ?_, refG_tup⟩
      obtain ⟨a1, a2, a3⟩ := snd_names hN gd h
      have z : PG X (.Tuple es j p) (gTup X.K is.length (gNames is)) := pg_tup gd.calm a1 a2 (List.findIdx?_eq_none_iff.mpr fun x hx => by rw [a3 x hx])
      rw [gd.K] at z
      exact z
    · cases h
/-- a comprehension's parts, together -/
structure LcOk (Γ : Gm) (n : Nat) (N : List Str) (sc : Scope) (elt iter tg : Expr) (tgt : Tg) (ifs : List Expr) (scope : Scope) (own : List (Str × Nat)) (fi : Loc → Sto → Option (R (List D × Option Nat))) (fc : Loc → Sto → Option (R Bool)) (fe : Loc → Sto → Option (R D)) : Prop where
  nd : N.Nodup
  hit : SndI Γ n N sc iter fi
  hif : SndTs Γ n N scope ifs fc
  hel : SndE Γ n N scope elt fe
  blk : BlkOk N sc scope own
  htg : chkTg N scope tg tgt = true
  iv : ∀ i ∈ tgt.ix, i ∈ own.map (·.2)
  nset : isSetE iter = false
def lcF (vs : List Nat) (tgt : Tg) (fi : Loc → Sto → Option (R (List D × Option Nat))) (fc : Loc → Sto → Option (R Bool)) (fe : Loc → Sto → Option (R D)) : Loc → Sto → Option (R D) := fun ρ S => bnd (fi ρ S) fun q S1 => bnd (noX (compGo (fun y S2 => (setT (wipeD ρ vs) tgt y).bind fun ρ' => fc ρ' S2) (fun y S2 => (setT (wipeD ρ vs) tgt y).bind fun ρ' => fe ρ' S2) (still q.2 q.1) q.1 S1)) fun ys S3 =>
      if ys.length ≤ sizeLine then some (.ok (.ref S3.length) (S3 ++ [.lst ys])) else none
variable {elt iter tg : Expr} {tgt : Tg} {ifs : List Expr} {scope : Scope} {own : List (Str × Nat)} {fi : Loc → Sto → Option (R (List D × Option Nat))} {fc : Loc → Sto → Option (R Bool)} {fe : Loc → Sto → Option (R D)} {px pos : Pos}
theorem snd_lc (h : LcOk Γ n N sc elt iter tg tgt ifs scope own fi fc fe) : SndE Γ n N sc (.ListComp elt [⟨tg, iter, ifs, 0⟩] scope pos) (lcF (own.map (·.2)) tgt fi fc fe) := fun E => by
  obtain ⟨wi, a1, a2⟩ := h.hit E
  obtain ⟨tt, b1, b2⟩ := h.hif E0
  obtain ⟨te, c1, c2⟩ := h.hel E0
  obtain ⟨g, d1, d2⟩ := snd_tg (Γ := Γ) (n := n) h.nd h.htg
  refine ⟨tLc wi g tt te (own.map (·.2)), fun X gd hx => ?_, ref_lc a2 b2 c2 d2 h.iv⟩
  exact pe_lc gd.calm (by rw [gd.N]; exact h.nd) (a1 X _ gd hx) (gd.blkOk h.blk) (fun s H C cl fp => d1 _ (gd.blk s H scope C cl fp))
    (fun s H C cl fp => b1 _ (gd.blk s H scope C cl fp) pass_blk) (fun s H C cl fp => c1 _ (gd.blk s H scope C cl fp) pass_blk) (noset_of h.nset)
end
end Mi

end
section
set_option Elab.async false
set_option linter.all false
set_option maxRecDepth 100000
set_option maxHeartbeats 1000000
/-! Statements. -/
namespace Mi
open PySem L2 PySem.Spec PyProof.Rows
section
variable (K : PySem.W.Frag) (XR : List Addr → Hp → Value → Option Addr → Nat → D → Prop) (E : XK)
def PostO (m : List Addr) (H : Hp) (o : O) (Dn : Ends) : Prop := match o with
  | .nx ρ' S' => ∀ σ' H' m', Ext K m H m' H' → Rel K m' S' H' → VO K m' H' ρ' σ' → Dn.nx σ' H'
  | .rt d S' => ∀ v H' m', Ext K m H m' H' → Rel K m' S' H' → VR K m' H' d v → Dn.rt v H'
  | .ex c dv S' => PostX K XR E m H c dv S'
def RefS (t : TS) (f : Loc → Sto → Option O) : Prop := ∀ m H S ρ σ o Dn, Rel K m S H → VO K m H ρ σ → f ρ S = some o → PostO K XR E m H o Dn → t Dn σ H
end
section
variable {K : PySem.W.Frag} {XR : List Addr → Hp → Value → Option Addr → Nat → D → Prop} {E : XK}
theorem PostO.mono {m m' : List Addr} {H H' : Hp} {o : O} {Dn : Ends} (e : Ext K m H m' H') (p : PostO K XR E m H o Dn) : PostO K XR E m' H' o Dn := by
  cases o with
  | nx ρ S => exact fun σ2 H2 m2 e2 => p σ2 H2 m2 (e.trans e2)
  | rt d S => exact fun v H2 m2 e2 => p v H2 m2 (e.trans e2)
  | ex c dv S => exact PostX.mono e p
/-- an expression first -/
theorem ref_ofE {α β : Type} {V1 : List Addr → Hp → α → β → Prop} {t : L2.St → Hp → (β → Hp → Prop) → Prop} {f : Loc → Sto → Option (R α)} (h : Ref K XR E V1 t f) {m : List Addr} {H : Hp} {S : Sto} {ρ : Loc} {σ : L2.St} {r : R α} {Q : β → Hp → Prop} (rel : Rel K m S H) (vo : VO K m H ρ σ) (hf : f ρ S = some r)
    (hx : ∀ c dv S1, r = .ex c dv S1 → PostX K XR E m H c dv S1) (hk : ∀ a S1 v H1 m1, r = .ok a S1 → Ext K m H m1 H1 → Rel K m1 S1 H1 → VO K m1 H1 ρ σ → V1 m1 H1 a v → Q v H1) : t σ H Q := by
  refine h m H S ρ σ r Q rel vo hf ?_
  cases r with
  | ok a S1 => exact fun v H1 m1 e1 rel1 hv => hk a S1 v H1 m1 rfl e1 rel1 (vo.mono e1) hv
  | ex c dv S1 => exact hx c dv S1 rfl
theorem ref_asg {t : TE} {g : TG} {tgt : Tg} {f : Loc → Sto → Option (R D)} (h : RefE K XR E t f) (hg : RefG K g tgt) : RefS K XR E (tAsg t g) (fun ρ S => ofE (f ρ S) fun d S1 => (setT ρ tgt d).map fun ρ1 => .nx ρ1 S1) := by
  intro m H S ρ σ o Dn rel vo hf p
  dsimp only at hf
  cases q : f ρ S with
  | none => rw [q] at hf; cases hf
  | some r =>
    rw [q] at hf
    refine ref_ofE h rel vo q (fun c dv S1 e => ?_) fun d S1 v H1 m1 e e1 rel1 vo1 hv => ?_
    · subst e; cases hf; exact p
    · subst e
      obtain ⟨ρ1, g1, g2⟩ := map_some (show (setT ρ tgt d).map (fun ρ1 => O.nx ρ1 S1) = some o from hf)
      subst g2
      exact hg m1 H1 S1 ρ σ d v ρ1 _ rel1 vo1 hv g1 fun σ' vo' _ => p σ' H1 m1 e1 rel1 vo'
theorem ref_expr {t : TE} {f : Loc → Sto → Option (R D)} (h : RefE K XR E t f) : RefS K XR E (tDrop t) (fun ρ S => ofE (f ρ S) fun _ S1 => some (.nx ρ S1)) := by
  intro m H S ρ σ o Dn rel vo hf p
  dsimp only at hf
  cases q : f ρ S with
  | none => rw [q] at hf; cases hf
  | some r =>
    rw [q] at hf
    refine ref_ofE h rel vo q (fun c dv S1 e => ?_) fun d S1 v H1 m1 e e1 rel1 vo1 hv => ?_
    · subst e; cases hf; exact p
    · subst e; cases hf
      exact p σ H1 m1 e1 rel1 vo1
theorem ref_ret {t : TE} {f : Loc → Sto → Option (R D)} (h : RefE K XR E t f) : RefS K XR E (tRet t) (fun ρ S => ofE (f ρ S) fun d S1 => some (.rt d S1)) := by
  intro m H S ρ σ o Dn rel vo hf p
  dsimp only at hf
  cases q : f ρ S with
  | none => rw [q] at hf; cases hf
  | some r =>
    rw [q] at hf
    refine ref_ofE h rel vo q (fun c dv S1 e => ?_) fun d S1 v H1 m1 e e1 rel1 vo1 hv => ?_
    · subst e; cases hf; exact p
    · subst e; cases hf
      exact p v H1 m1 e1 rel1 hv
theorem ref_if {tc : TT} {t u : TS} {fc : Loc → Sto → Option (R Bool)} {f g : Loc → Sto → Option O} (hc : RefT K XR E tc fc) (ht : RefS K XR E t f) (hu : RefS K XR E u g) :
    RefS K XR E (tIfS tc t u) (fun ρ S => match fc ρ S with
      | some (.ok true S1) => f ρ S1
      | some (.ok false S1) => g ρ S1
      | some (.ex c v S1) => some (.ex c v S1)
      | none => none) := by
  intro m H S ρ σ o Dn rel vo hf p
  dsimp only at hf
  cases q : fc ρ S with
  | none => rw [q] at hf; cases hf
  | some r =>
    rw [q] at hf
    refine ref_ofE hc rel vo q (fun c dv S1 e => ?_) fun d S1 v H1 m1 e e1 rel1 vo1 hv => ?_
    · subst e; cases hf; exact p
    · subst e
      have hv : v = d := hv
      subst hv
      cases v with
      | true =>
        rw [if_pos rfl]
        exact ht m1 H1 S1 ρ σ o Dn rel1 vo1 hf (p.mono e1)
      | false =>
        rw [if_neg Bool.false_ne_true]
        exact hu m1 H1 S1 ρ σ o Dn rel1 vo1 hf (p.mono e1)
theorem ref_never : RefS K XR E tNever (fun _ _ => none) := by
  intro m H S ρ σ o Dn rel vo hf p
  cases hf
theorem ref_next : RefS K XR E tNext (fun ρ S => some (.nx ρ S)) := by
  intro m H S ρ σ o Dn rel vo hf p
  cases hf
  exact p σ H m Ext.refl rel vo
theorem ref_seqS {t u : TS} {f g : Loc → Sto → Option O} (ht : RefS K XR E t f) (hu : RefS K XR E u g) :
    RefS K XR E (tSeq t u) (fun ρ S => match f ρ S with
      | some (.nx ρ1 S1) => g ρ1 S1
      | some (.rt d S1) => some (.rt d S1)
      | some (.ex c v S1) => some (.ex c v S1)
      | none => none) := by
  intro m H S ρ σ o Dn rel vo hf p
  dsimp only at hf
  cases q : f ρ S with
  | none => rw [q] at hf; cases hf
  | some r =>
    rw [q] at hf
    refine ht m H S ρ σ r _ rel vo q ?_
    cases r with
    | nx ρ1 S1 => exact fun σ1 H1 m1 e1 rel1 vo1 => hu m1 H1 S1 ρ1 σ1 o Dn rel1 vo1 hf (p.mono e1)
    | rt d S1 => cases hf; exact p
    | ex c dv S1 => cases hf; exact p
/-- xs[i] = v -/
theorem ref_setIx {te to ti : TE} {fe fo fi : Loc → Sto → Option (R D)} (he : RefE K XR E te fe) (ho : RefE K XR E to fo) (hi : RefE K XR E ti fi) :
    RefS K XR E (tAsg te (gSub to ti rSetL)) (fun ρ S => ofE (fe ρ S) fun v S1 => ofE (fo ρ S1) fun x S2 => ofE (fi ρ S2) fun y S3 => match x, y with
      | .ref r, .int n => match S3[r]? with
        | some (.lst xs) => match ixN xs.length n with
          | some j => some (.nx ρ (S3.set r (.lst (xs.set j v))))
          | none => none
        | _ => none
      | _, _ => none) := by
  intro m H S ρ σ o Dn rel vo hf p
  dsimp only at hf
  cases q : fe ρ S with
  | none => rw [q] at hf; cases hf
  | some r =>
    rw [q] at hf
    refine ref_ofE he rel vo q (fun c dv S1 e => ?_) fun d S1 v H1 m1 e e1 rel1 vo1 hv => ?_
    · subst e; cases hf; exact p
    subst e
    have p := p.mono e1
    simp only [ofE] at hf
    cases q2 : fo ρ S1 with
    | none => rw [q2] at hf; cases hf
    | some r2 =>
      rw [q2] at hf
      refine ref_ofE ho rel1 vo1 q2 (fun c dv S2 e => ?_) fun x S2 w H2 m2 e e2 rel2 vo2 hw => ?_
      · subst e; cases hf; exact p
      subst e
      have p := p.mono e2
      simp only at hf
      cases q3 : fi ρ S2 with
      | none => rw [q3] at hf; cases hf
      | some r3 =>
        rw [q3] at hf
        refine ref_ofE hi rel2 vo2 q3 (fun c dv S3 e => ?_) fun y S3 u H3 m3 e e3 rel3 vo3 hu => ?_
        · subst e; cases hf; exact p
        subst e
        have p := p.mono e3
        simp only at hf
        split at hf
        · rename_i r n
          split at hf
          · rename_i xs q4
            split at hf
            · rename_i j q5
              cases hf
              obtain ⟨a, ea, hm⟩ := VR.mono e3 _ _ hw
              have hu : u = .int n := hu
              obtain ⟨vs, g1, g2⟩ := rel3.lst hm q4
              have hv3 := VR.mono (e2.trans e3) _ _ hv
              obtain ⟨b1, b2⟩ := set_lst (ds := xs) (es := xs.set j d) rel3 hm (VRs.set hv3 j g2)
              exact ⟨a, vs, n, j, ea, hu, g1, by rw [g2.length]; exact q5, p σ _ m3 b1 b2 (vo3.mono b1)⟩
            · cases hf
          · cases hf
        · cases hf
theorem whl_mono {cond : Loc → Sto → Option (R Bool)} {body : Loc → Sto → Option O} : True := trivial
theorem ref_whl {tc : TT} {tb : TS} {cond : Loc → Sto → Option (R Bool)} {body : Loc → Sto → Option O} {W0 : Nat} (hc : RefT K XR E tc cond) (hb : RefS K XR E tb body) : RefS K XR E (tWhile tc tb) (fun ρ S => whlGo cond body W0 ρ S) := by
  intro m H S ρ σ o Dn rel vo hf p
  refine ⟨fun k σ' H' => ∃ m' S' ρ', Rel K m' S' H' ∧ VO K m' H' ρ' σ' ∧ whlGo cond body k ρ' S' = some o ∧ PostO K XR E m' H' o Dn, ⟨W0, m, S, ρ, rel, vo, hf, p⟩, ?_⟩
  rintro k σ' H' ⟨m', S', ρ', rel', vo', hw, p'⟩
  cases k with
  | zero => cases hw
  | succ k =>
    rw [whlGo] at hw
    cases q : cond ρ' S' with
    | none => rw [q] at hw; cases hw
    | some r =>
      rw [q] at hw
      refine ref_ofE hc rel' vo' q (fun c dv S1 e => ?_) fun b S1 v H1 m1 e e1 rel1 vo1 hv => ?_
      · subst e; cases hw; exact p'
      subst e
      have hv : v = b := hv
      subst hv
      have p1 := p'.mono e1
      cases v with
      | false =>
        rw [if_neg Bool.false_ne_true]
        cases hw
        exact p1 σ' H1 m1 Ext.refl rel1 vo1
      | true =>
        rw [if_pos rfl]
        simp only at hw
        refine ⟨fun σ2 H2 => ∃ m' S' ρ', Rel K m' S' H2 ∧ VO K m' H2 ρ' σ2 ∧ whlGo cond body k ρ' S' = some o ∧ PostO K XR E m' H2 o Dn, fun σ2 H2 z => ⟨k, Nat.lt_succ_self k, z⟩, ?_⟩
        cases q2 : body ρ' S1 with
        | none => rw [q2] at hw; cases hw
        | some r2 =>
          rw [q2] at hw
          refine hb m1 H1 S1 ρ' σ' r2 _ rel1 vo1 q2 ?_
          cases r2 with
          | nx ρ2 S2 => exact fun σ2 H2 m2 e2 rel2 vo2 => ⟨m2, S2, ρ2, rel2, vo2, hw, p1.mono e2⟩
          | rt d S2 => cases hw; exact p1
          | ex c dv S2 => cases hw; exact p1
theorem ref_for {wi : TI} {g : TG} {tgt : Tg} {tb : TS} {fi : Loc → Sto → Option (R (List D × Option Nat))} {body : Loc → Sto → Option O} (hi : RefI K XR E wi fi) (hg : RefG K g tgt) (hb : RefS K XR E tb body) :
    RefS K XR E (tFor wi g tb) (fun ρ S => match fi ρ S with
      | some (.ok q S1) => forGo tgt body (still q.2 q.1) q.1 ρ S1
      | some (.ex c v S1) => some (.ex c v S1)
      | none => none) := by
  intro m H S ρ σ o Dn rel vo hf p
  dsimp only at hf
  cases q : fi ρ S with
  | none => rw [q] at hf; cases hf
  | some r =>
    refine hi m H S ρ σ r _ rel vo q ?_
    rw [q] at hf
    cases r with
    | ex c dv S1 => cases hf; exact p
    | ok a S1 =>
      obtain ⟨xs, gg⟩ := a
      intro J H1 m1 e1 rel1 wk st
      have hf : forGo tgt body (still gg xs) xs ρ S1 = some o := hf
      refine ⟨fun j k σ' H' => k = xs.length - j ∧ j ≤ xs.length ∧ ∃ m' S' ρ', Ext K m1 H1 m' H' ∧ Rel K m' S' H' ∧ VO K m' H' ρ' σ' ∧ still gg xs S' = true ∧ forGo tgt body (still gg xs) (xs.drop j) ρ' S' = some o ∧ PostO K XR E m' H' o Dn, ⟨xs.length, by simp, Nat.zero_le _, m1, S1, ρ, Ext.refl, rel1, vo.mono e1, st, hf, p.mono e1⟩, ?_⟩
      rintro j k σ' H' ⟨rfl, hj, m', S', ρ', e, rel', vo', st', hr, p'⟩
      have w := wk m' H' S' e rel' st' j
      by_cases hlt : j < xs.length
      · refine .inr ⟨(w.1 _ (List.getElem?_eq_getElem hlt)).1, fun σ2 H2 => j + 1 ≤ xs.length ∧ ∃ m' S' ρ', Ext K m1 H1 m' H2 ∧ Rel K m' S' H2 ∧ VO K m' H2 ρ' σ2 ∧ still gg xs S' = true ∧ forGo tgt body (still gg xs) (xs.drop (j + 1)) ρ' S' = some o ∧ PostO K XR E m' H2 o Dn, fun σ2 H2 z => ⟨xs.length - (j + 1), by omega, rfl, z⟩, fun x H'' y => ?_⟩
        obtain ⟨e2, hx⟩ := (w.1 _ (List.getElem?_eq_getElem hlt)).2 x H'' y
        subst e2
        rw [List.drop_eq_getElem_cons hlt, forGo] at hr
        cases qs : setT ρ' tgt xs[j] with
        | none => rw [qs] at hr; cases hr
        | some ρ2 =>
          rw [qs] at hr
          simp only [Option.bind_some] at hr
          refine hg m' H'' S' ρ' σ' _ x ρ2 _ rel' vo' hx qs fun σ2 vo2 _ => ?_
          cases q2 : body ρ2 S' with
          | none => rw [q2] at hr; cases hr
          | some r2 =>
            rw [q2] at hr
            refine hb m' H'' S' ρ2 σ2 r2 _ rel' vo2 q2 ?_
            cases r2 with
            | nx ρ3 S3 =>
              obtain ⟨st3, hr⟩ := if_some' hr
              exact fun σ3 H3 m3 e3 rel3 vo3 => ⟨hlt, m3, S3, ρ3, e.trans e3, rel3, vo3, st3, hr, p'.mono e3⟩
            | rt d S3 => cases hr; exact p'
            | ex c dv S3 => cases hr; exact p'
      · have ej : j = xs.length := by omega
        subst ej
        rw [List.drop_length, forGo] at hr
        cases hr
        exact .inl ⟨w.2 (Nat.le_refl _), p' σ' H' m' Ext.refl rel' vo'⟩
end
/-! ### against the text -/
structure GoodB (Γ : Gm) (n : Nat) (N : List Str) (sc : Scope) (X : Cx) : Prop extends Good Γ n N sc X where
  own : PassesOwn (model X.prog X.w) X.A X.env X.xe
  scope : X.env.scope = sc
section
variable {Γ : Gm} {n : Nat} {N : List Str} {sc : Scope} {X : Cx} {pos : Pos}
def SndS (Γ : Gm) (n : Nat) (N : List Str) (sc : Scope) (st : Stmt) (f : Loc → Sto → Option O) : Prop := ∀ E : XK, ∃ t, (∀ X, GoodB Γ n N sc X → Passes (L2.CX Γ.P Γ.w) X E → PS X st t) ∧ RefS Γ.K Γ.XR E t f
def SndSs (Γ : Gm) (n : Nat) (N : List Str) (sc : Scope) (st : List Stmt) (f : Loc → Sto → Option O) : Prop := ∀ E : XK, ∃ t, (∀ X, GoodB Γ n N sc X → Passes (L2.CX Γ.P Γ.w) X E → PSs X st t) ∧ RefS Γ.K Γ.XR E t f
def isComp : Expr → Bool
  | .ListComp _ _ _ _ => true
  | .SetComp _ _ _ _ => true
  | .DictComp _ _ _ _ _ => true
  | _ => false
theorem sw_none {e : Expr} (h : isComp e = false) (t : Option Expr) (l : Nat) (env : Env) : swapsWith e t l env = pure false := by
  cases e <;> first | rfl | cases h
theorem sw_false {elt : Expr} {gs : List Comprehension} {scope : Scope} {p py : Pos} {y : Str} {l : Nat} {env : Env} (h : (env.scope.names.lookup y == some .local && (py.line == p.line)) = false) : swapsWith (.ListComp elt gs scope p) (some (.Name y py)) l env = pure false := by
  unfold swapsWith
  have h : (env.kindOf y == some .local && (py.line == p.line)) = false := h
  simp only [Expr.pos]
  cases hb : (env.blockKind == ScopeKind.function) with
  | false => rfl
  | true =>
    rw [Bool.true_and, h]
    rfl
theorem snd_ret {e : Expr} {f : Loc → Sto → Option (R D)} (h : SndE Γ n N sc e f) : SndS Γ n N sc (.Return (some e) pos) (fun ρ S => ofE (f ρ S) fun d S1 => some (.rt d S1)) := fun E => by
  obtain ⟨t, h1, h2⟩ := h E
  exact ⟨tRet t, fun X gd hx => ps_ret (h1 X gd.toGood hx), ref_ret h2⟩
theorem snd_expr {e : Expr} {f : Loc → Sto → Option (R D)} (h : SndE Γ n N sc e f) (hc : isComp e = false) : SndS Γ n N sc (.Expr e pos) (fun ρ S => ofE (f ρ S) fun _ S1 => some (.nx ρ S1)) := fun E => by
  obtain ⟨t, h1, h2⟩ := h E
  exact ⟨tDrop t, fun X gd hx => ps_expr (h1 X gd.toGood hx) (sw_none hc _ _ _), ref_expr h2⟩
theorem snd_set {e : Expr} {x : Str} {i : Nat} {px : Pos} {f : Loc → Sto → Option (R D)} (hN : N.Nodup) (ho : ownSlot N sc x i = true) (h : SndE Γ n N sc e f) (hs : ∀ X, GoodB Γ n N sc X → swapsWith e (some (.Name x px)) pos.line X.env = pure false) :
    SndS Γ n N sc (.Assign [.Name x px] e pos) (fun ρ S => ofE (f ρ S) fun d S1 => (setT ρ (.one i) d).map fun ρ1 => .nx ρ1 S1) := fun E => by
  obtain ⟨t, h1, h2⟩ := h E
  refine ⟨tAsg t (gName i), fun X gd hx => ?_, ref_asg h2 refG_one⟩
  exact ps_set (by rw [gd.N]; exact hN) (by rw [gd.N]; exact (own_slot ho).1) (gd.toGood.loc (own_slot ho).2).1 (h1 X gd.toGood hx) (hs X gd) (gd.toGood.loc (own_slot ho).2).2
variable {elt iter tg : Expr} {tgt : Tg} {ifs : List Expr} {scope : Scope} {own : List (Str × Nat)} {fi : Loc → Sto → Option (R (List D × Option Nat))} {fc : Loc → Sto → Option (R Bool)} {fe : Loc → Sto → Option (R D)}
theorem snd_setLc {x : Str} {i : Nat} {px p : Pos} (h : LcOk Γ n N sc elt iter tg tgt ifs scope own fi fc fe) (ho : ownSlot N sc x i = true) (hk : sc.kind = .function) (hl : sc.names.lookup x = some .local) (hp : (px.line == p.line) = true)
    (ha : (scope.names.any fun (n, k) => n == x && (k == .local || k == .cell)) = false) : SndS Γ n N sc (.Assign [.Name x px] (.ListComp elt [⟨tg, iter, ifs, 0⟩] scope p) pos) (fun ρ S => ofE (lcF (own.map (·.2)) tgt fi fc fe ρ S) fun d S1 => (setT ρ (.one i) d).map fun ρ1 => .nx ρ1 S1) := fun E => by
  obtain ⟨wi, a1, a2⟩ := h.hit E
  obtain ⟨tt, b1, b2⟩ := h.hif E0
  obtain ⟨te, c1, c2⟩ := h.hel E0
  obtain ⟨g, d1, d2⟩ := snd_tg (Γ := Γ) (n := n) h.nd h.htg
  refine ⟨tAsg (tLc wi g tt te (own.map (·.2))) (gName i), fun X gd hx => ?_, ref_asg (ref_lc a2 b2 c2 d2 h.iv) refG_one⟩
  have gg := gd.toGood
  exact ps_setLc gg.calm (by rw [gg.N]; exact h.nd) (by rw [gg.N]; exact (own_slot ho).1) (by rw [gd.scope]; exact hl) (sw_true (by rw [gd.scope]; exact hk) (by rw [gd.scope]; exact hl) hp ha) (a1 X _ gg hx) (gg.blkOk h.blk)
    (fun s H C cl fp => d1 _ (gg.blk s H scope C cl fp)) (fun s H C cl fp => b1 _ (gg.blk s H scope C cl fp) pass_blk) (fun s H C cl fp => c1 _ (gg.blk s H scope C cl fp) pass_blk) (noset_of h.nset)
theorem snd_setIx {a b e : Expr} {p : Pos} {fa fb fe : Loc → Sto → Option (R D)} (ha : SndE Γ n N sc a fa) (hb : SndE Γ n N sc b fb) (he : SndE Γ n N sc e fe) (hs : isSlcE b = false) (hc : isComp e = false) :
    SndS Γ n N sc (.Assign [.Subscript a b p] e pos) (fun ρ S => ofE (fe ρ S) fun v S1 => ofE (fa ρ S1) fun x S2 => ofE (fb ρ S2) fun y S3 => match x, y with
      | .ref r, .int n => match S3[r]? with
        | some (.lst xs) => match ixN xs.length n with
          | some j => some (.nx ρ (S3.set r (.lst (xs.set j v))))
          | none => none
        | _ => none
      | _, _ => none) := fun E => by
  obtain ⟨t, h1, h2⟩ := he E
  obtain ⟨u, h3, h4⟩ := ha E
  obtain ⟨v, h5, h6⟩ := hb E
  refine ⟨_, fun X gd hx => ?_, ref_setIx h2 h4 h6⟩
  exact ps_asg (h1 X gd.toGood hx) (pg_sub (h3 X gd.toGood hx) (h5 X gd.toGood hx) set_list (by intro w; cases b <;> first | rfl | cases hs)) (by unfold swapsWithSole; exact sw_none hc _ _ _) (by cases e <;> rfl) rfl
/-! a, b = .. -/
def nmOf : Expr → Str
  | .Name x _ => x
  | _ => ""
def isNm : Expr → Bool
  | .Name _ _ => true
  | _ => false
theorem chkNs_nm : ∀ {es : List Expr} {is : List Nat}, chkNs N sc es is = true → ∀ e ∈ es, isNm e = true
  | [], _, _, e, h => by simp at h
  | a :: es, [], h, e, he => by cases h
  | a :: es, i :: is, h, e, he => by
    simp only [chkNs, Bool.and_eq_true] at h
    rcases List.mem_cons.mp he with z | z
    · subst z
      cases e <;> first | rfl | cases h.1
    · exact chkNs_nm h.2 e z
theorem sole_tup {es : List Expr} {j : Nat} {p : Pos} {e : Expr} {l : Nat} {env : Env} : swapsWithSole [.Tuple es j p] e l env = pure false := by
  unfold swapsWithSole
  cases e <;> rfl
def isTupE : Expr → Bool
  | .Tuple _ _ _ => true
  | _ => false
theorem stores_plain {es : List Expr} {j : Nat} {p : Pos} {e : Expr} {env : Env} (h : isTupE e = false) : swappedStores [.Tuple es j p] e env = pure none := by
  cases e <;> first | rfl | cases h
theorem flt_ne {α β : Type} {f : α → Option β} {l : List α} {e : α} (he : e ∈ l) (h : f e = none) : ((l.filterMap f).length != l.length) = true := by
  rw [bne_iff_ne]
  intro z
  have q := List.filterMap_length_eq_length.mp z e he
  rw [h] at q
  cases q
theorem any2 {α : Type} {a b : α} {f : α → Bool} (h1 : f a = false) (h2 : f b = false) : [a, b].any f = false := by
  simp [h1, h2]
/-- the pair is made and unpacked, as not all of the names are locals -/
theorem stores_cell {es vs : List Expr} {j j2 : Nat} {p p2 : Pos} {env : Env} (h : ∃ e ∈ es, isNm e = true ∧ (env.kindOf (nmOf e) == some .local) = false) : swappedStores [.Tuple es j p] (.Tuple vs j2 p2) env = pure none := by
  obtain ⟨e, he, h1, h2⟩ := h
  unfold swappedStores
  dsimp only
  split
  · rfl
  · split
    · rfl
    · split
      · rfl
      · rename_i hh
        exfalso
        simp only [Bool.or_eq_true, not_or] at hh
        refine hh.1 (flt_ne he ?_)
        cases e with
        | Name x px =>
          have h2 : (env.kindOf x == some NameKind.local) = false := h2
          show (if (env.kindOf x == some .local && px.line == _) = true then some x else none) = none
          rw [h2]
          rfl
        | _ => cases h1
theorem snd_tasg {es : List Expr} {is : List Nat} {j : Nat} {p : Pos} {e : Expr} {f : Loc → Sto → Option (R D)} (hN : N.Nodup) (hg : chkTg N sc (.Tuple es j p) (.tup is) = true) (h : SndE Γ n N sc e f)
    (hs : isTupE e = false ∨ ∃ y ∈ es, (sc.names.lookup (nmOf y) == some .local) = false) :
    SndS Γ n N sc (.Assign [.Tuple es j p] e pos) (fun ρ S => ofE (f ρ S) fun d S1 => (setT ρ (.tup is) d).map fun ρ1 => .nx ρ1 S1) := fun E => by
  obtain ⟨t, h1, h2⟩ := h E
  obtain ⟨g, d1, d2⟩ := snd_tg (Γ := Γ) (n := n) hN hg
  refine ⟨tAsg t g, fun X gd hx => ?_, ref_asg h2 d2⟩
  refine ps_asg (h1 X gd.toGood hx) (d1 X gd.toGood) sole_tup ?_ rfl
  cases hb : isTupE e with
  | false => exact stores_plain hb
  | true =>
    rcases hs with z | ⟨y, hy, hc⟩
    · rw [hb] at z; cases z
    · cases e with
      | Tuple vs j2 p2 => exact stores_cell ⟨y, hy, chkNs_nm hg y hy, by show (X.env.scope.names.lookup (nmOf y) == some .local) = false; rw [gd.scope]; exact hc⟩
      | _ => cases hb
/-- two locals at once -/
theorem stores_two {x y : Str} {px py p p2 : Pos} {a b : Expr} {j j2 : Nat} {env : Env} (hk : env.scope.kind = .function) (hx : env.scope.names.lookup x = some .local) (hy : env.scope.names.lookup y = some .local) (hl : (py.line == px.line) = true) (hxy : (y == x) = false)
    (sa : isStar a = false) (sb : isStar b = false) (hf : ([a, b].all (foldedForSure 8)) = false) (hc : ([a, b].all (constantsAlone 8)) = false) : swappedStores [.Tuple [.Name x px, .Name y py] j p] (.Tuple [a, b] j2 p2) env = pure (some [x, y]) := by
  have kx : (env.kindOf x == some NameKind.local) = true := by
    have z : env.kindOf x = some NameKind.local := hx
    rw [z]; rfl
  have ky : (env.kindOf y == some NameKind.local) = true := by
    have z : env.kindOf y = some NameKind.local := hy
    rw [z]; rfl
  have hb : env.blockKind = .function := by unfold Env.blockKind; rw [hk]; rfl
  have he : ([x, y] : List Str).eraseDups = [x, y] := by
    simp [List.eraseDups_cons, hxy]
  unfold swappedStores
  simp only [hb, List.filterMap_cons, List.filterMap_nil, kx, ky, List.head?_cons, Option.map_some, Option.getD_some, Expr.pos, beq_self_eq_true, Bool.true_and, hl, if_true, he]
  refine (if_neg (by simp)).trans ?_
  refine (if_neg (Bool.eq_false_iff.mp (any2 (by cases a <;> first | rfl | cases sa) (by cases b <;> first | rfl | cases sb)))).trans ?_
  refine (if_neg (by simp)).trans ?_
  rw [hf, hc]
  rfl
theorem snd_par {x y : Str} {i j k1 k2 : Nat} {px py p p2 : Pos} {a b : Expr} {g : Loc → Sto → Option (R (List D))} (hN : N.Nodup) (hi : ownSlot N sc x i = true) (hj : ownSlot N sc y j = true) (hij : i ≠ j) (hk : sc.kind = .function) (hx : sc.names.lookup x = some .local) (hy : sc.names.lookup y = some .local) (hl : (py.line == px.line) = true) (hxy : (y == x) = false)
    (sa : isStar a = false) (sb : isStar b = false) (hf : ([a, b].all (foldedForSure 8)) = false) (hc : ([a, b].all (constantsAlone 8)) = false) (h : SndA Γ n N sc [a, b] g) :
    SndS Γ n N sc (.Assign [.Tuple [.Name x px, .Name y py] k1 p] (.Tuple [a, b] k2 p2) pos) (fun ρ S => ofE (bnd (g ρ S) fun ds S1 => if ds.length ≤ sizeLine then some (.ok (.tup ds) S1) else none) fun d S1 => (setT ρ (.tup [i, j]) d).map fun ρ1 => .nx ρ1 S1) := fun E => by
  obtain ⟨t, h1, h2⟩ := h E
  refine ⟨tPar i j t, fun X gd hxx => ?_, ?_⟩
  · have gg := gd.toGood
    refine ps_par gg.calm (by rw [gg.N]; exact hN) (by rw [gg.N]; exact (own_slot hi).1) (by rw [gg.N]; exact (own_slot hj).1) hij (by rw [gd.scope]; exact hx) (by rw [gd.scope]; exact hy) (h1 X gg hxx) ?_ sole_tup
    exact stores_two (by rw [gd.scope]; exact hk) (by rw [gd.scope]; exact hx) (by rw [gd.scope]; exact hy) hl hxy sa sb hf hc
  · intro m H S ρ σ o Dn rel vo hff p
    dsimp only at hff
    cases q : g ρ S with
    | none => rw [q] at hff; cases hff
    | some r =>
      rw [q] at hff
      refine ref_ofE h2 rel vo q (fun c dv S1 e => ?_) fun ds S1 vs H1 m1 e e1 rel1 vo1 hv => ?_
      · subst e; cases hff; exact p
      subst e
      rw [bnd_ok] at hff
      by_cases hz : ds.length ≤ sizeLine
      · rw [if_pos hz] at hff
        obtain ⟨ρ1, g1, g2⟩ := map_some (show (setT ρ (.tup [i, j]) (.tup ds)).map (fun ρ1 => O.nx ρ1 S1) = some o from hff)
        subst g2
        obtain ⟨g3, g4⟩ := if_some (show (if ds.length = [i, j].length then some (setAll ρ [i, j] ds) else none) = some ρ1 from g1)
        subst g4
        match ds, hv, g3 with
        | [d1, d2], hv, _ =>
          obtain ⟨v, w, e, a1, a2⟩ := hv.two
          exact ⟨v, w, e, p _ H1 m1 e1 rel1 ((vo1.put a1 i).put a2 j)⟩
      · rw [if_neg hz] at hff
        cases hff
theorem snd_never {st : Stmt} : SndS Γ n N sc st (fun _ _ => none) := fun E => ⟨tNever, fun X _ _ => ps_never, ref_never⟩
theorem snd_if {c : Expr} {a b : List Stmt} {fc : Loc → Sto → Option (R Bool)} {f g : Loc → Sto → Option O} (hc : SndT Γ n N sc c fc) (ha : SndSs Γ n N sc a f) (hb : SndSs Γ n N sc b g) :
    SndS Γ n N sc (.If c a b pos) (fun ρ S => match fc ρ S with
      | some (.ok true S1) => f ρ S1
      | some (.ok false S1) => g ρ S1
      | some (.ex c v S1) => some (.ex c v S1)
      | none => none) := fun E => by
  obtain ⟨t, h1, h2⟩ := hc E
  obtain ⟨u, h3, h4⟩ := ha E
  obtain ⟨v, h5, h6⟩ := hb E
  exact ⟨tIfS t u v, fun X gd hx => ps_if (h1 X gd.toGood hx) (h3 X gd hx) (h5 X gd hx), ref_if h2 h4 h6⟩
theorem snd_whl {c : Expr} {b : List Stmt} {W0 : Nat} {cond : Loc → Sto → Option (R Bool)} {body : Loc → Sto → Option O} (hc : SndT Γ n N sc c cond) (hb : SndSs Γ n N sc b body) : SndS Γ n N sc (.While c b [] pos) (fun ρ S => whlGo cond body W0 ρ S) := fun E => by
  obtain ⟨t, h1, h2⟩ := hc E
  obtain ⟨u, h3, h4⟩ := hb E
  exact ⟨tWhile t u, fun X gd hx => ps_while gd.own (h1 X gd.toGood hx) (h3 X gd hx), ref_whl h2 h4⟩
theorem snd_for {it tg : Expr} {b : List Stmt} {tgt : Tg} {fi : Loc → Sto → Option (R (List D × Option Nat))} {body : Loc → Sto → Option O} (hN : N.Nodup) (hi : SndI Γ n N sc it fi) (hg : chkTg N sc tg tgt = true) (hb : SndSs Γ n N sc b body) (hs : isSetE it = false) :
    SndS Γ n N sc (.For tg it b [] pos) (fun ρ S => match fi ρ S with
      | some (.ok q S1) => forGo tgt body (still q.2 q.1) q.1 ρ S1
      | some (.ex c v S1) => some (.ex c v S1)
      | none => none) := fun E => by
  obtain ⟨wi, h1, h2⟩ := hi E
  obtain ⟨g, d1, d2⟩ := snd_tg (Γ := Γ) (n := n) hN hg
  obtain ⟨u, h3, h4⟩ := hb E
  exact ⟨tFor wi g u, fun X gd hx => ps_for gd.own gd.calm (h1 X tg gd.toGood hx) (d1 X gd.toGood) (h3 X gd hx) (noset_of hs), ref_for h2 d2 h4⟩
theorem snd_snil : SndSs Γ n N sc [] (fun ρ S => some (.nx ρ S)) := fun E => ⟨tNext, fun X _ _ => pss_nil, ref_next⟩
theorem snd_scons {st : Stmt} {rest : List Stmt} {f g : Loc → Sto → Option O} (hs : SndS Γ n N sc st f) (hr : SndSs Γ n N sc rest g) : SndSs Γ n N sc (st :: rest) (fun ρ S => match f ρ S with
      | some (.nx ρ1 S1) => g ρ1 S1
      | some (.rt d S1) => some (.rt d S1)
      | some (.ex c v S1) => some (.ex c v S1)
      | none => none) := fun E => by
  obtain ⟨t, h1, h2⟩ := hs E
  obtain ⟨u, h3, h4⟩ := hr E
  exact ⟨tSeq t u, fun X gd hx => pss_cons (h1 X gd hx) (h3 X gd hx), ref_seqS h2 h4⟩
end
end Mi

end
section
set_option Elab.async false
set_option linter.all false
set_option maxRecDepth 100000
set_option maxHeartbeats 1000000
/-! A text against the small language: the check, and what it tells. -/
namespace Mi
open PySem L2 PySem.Spec PyProof.Rows
def noStar (ps : List Expr) : Bool := ps.all fun e => !isStar e
def opN : Operator → Option Op2
  | .Add => some .add
  | .Sub => some .sub
  | .Mult => some .mul
  | .FloorDiv => some .fdiv
  | .Mod => some .mod
  | .Pow => some .pow
  | _ => none
theorem opN_o {o : Operator} {p : Op2} (h : opN o = some p) : o = oOp p := by
  cases o <;> first | cases h; rfl | cases h
def cmN : CmpOp → Option Cm
  | .Lt => some .lt
  | .LtE => some .le
  | .Gt => some .gt
  | .GtE => some .ge
  | .Eq => some .eq
  | .NotEq => some .ne
  | .Is => some .isN
  | .IsNot => some .notN
  | .In => some .isIn
  | .NotIn => some .notIn
theorem cmN_o {o : CmpOp} {p : Cm} (h : cmN o = some p) : o = oCm p := by
  cases o <;> first | cases h; rfl | cases h
/-- the name of a built-in type -/
def tyNm : List (Str × String) := [("int", "int"), ("bool", "bool"), ("str", "str"), ("tuple", "tuple"), ("list", "list"), ("dict", "dict")]
theorem tyNm_ok {x : Str} {t : String} (h : (x, t) ∈ tyNm) : bootBuiltins x = some (.type t) ∧ x ∈ freeNames ∧ plainN x = true := by
  have key : ∀ q ∈ tyNm, bootBuiltins q.1 = some (.type q.2) ∧ q.1 ∈ freeNames ∧ plainN q.1 = true := by
    intro q hq
    simp only [tyNm, List.mem_cons, List.not_mem_nil, or_false] at hq
    rcases hq with rfl | rfl | rfl | rfl | rfl | rfl
    all_goals exact ⟨by decide +kernel, by decide +kernel, by decide +kernel⟩
  exact key _ h
def isM1 : Expr → Bool
  | .UnaryOp .USub (.Constant (.int i) _ _) _ => decide (i = 1)
  | _ => false
/-- what an iteration is over -/
def itArgs (sc : Scope) (k : Ik) (iter : Expr) : Option (List Expr) := match k with
  | .seq => some [iter]
  | _ => match iter with
    | .Call (.Name x _) ps [] _ => if (decide (x = "range") && isGlb (sc.names.lookup x) && noStar ps && (match k with
        | .rng1 => ps.length == 1
        | .rng2 => ps.length == 2
        | .rng3 => ps.length == 3
        | .seq => false)) = true then some ps else none
    | _ => none
section
variable (N : List Str) (Gn : List (Str × D)) (T : List Fd)
mutual
def chkE : E → Scope → Expr → Bool
  | .var i, sc, pe => match pe with
    | .Name x _ => decide (N[i]? = some x) && isVis (sc.names.lookup x) && plainN x
    | _ => false
  | .lit d, sc, pe => match pe with
    | .Constant c _ _ => match d, c with
      | .int i, .int j => decide (i = j)
      | .bl a, .bool b => a == b
      | .non, .none => true
      | .str x, .str y => decide (x = y)
      | _, _ => false
    | _ => false
  | .glb k, sc, pe => match pe with
    | .Name x _ => decide ((Gn[k]?).map (·.1) = some x) && isGlb (sc.names.lookup x) && plainN x
    | _ => false
  | .tup es, sc, pe => match pe with
    | .Tuple ps _ _ => noStar ps && chkEs es sc ps
    | _ => false
  | .lst es, sc, pe => match pe with
    | .List ps _ => noStar ps && chkEs es sc ps
    | _ => false
  | .dic ks es, sc, pe => match pe with
    | .Dict dks ps _ => (match ks, dks with
        | [], [] => ps.isEmpty
        | [x], [some (.Constant (.str y) _ _)] => decide (x = y) && ps.length == 1
        | _, _ => false) && chkEs es sc ps
    | _ => false
  | .op o a b, sc, pe => match pe with
    | .BinOp a' o' b' _ => decide (opN o' = some o) && chkE a sc a' && chkE b sc b'
    | _ => false
  | .neg a, sc, pe => match pe with
    | .UnaryOp .USub a' _ => chkE a sc a'
    | _ => false
  | .cmp c a b, sc, pe => match pe with
    | .Compare a' [c'] [b'] _ => decide (cmN c' = some c) && !isSetE b' && chkE a sc a' && chkE b sc b'
    | _ => false
  | .chain c1 c2 a b c, sc, pe => match pe with
    | .Compare a' [c1', c2'] [b', c'] _ => decide (cmN c1' = some c1) && decide (cmN c2' = some c2) && !isSetE c' && chkE a sc a' && chkE b sc b' && chkE c sc c'
    | _ => false
  | .and es, sc, pe => match pe with
    | .BoolOp .And ps _ => !ps.isEmpty && ps.all (fun e => !isIfE e) && chkEs es sc ps
    | _ => false
  | .or es, sc, pe => match pe with
    | .BoolOp .Or ps _ => !ps.isEmpty && ps.all (fun e => !isIfE e) && chkEs es sc ps
    | _ => false
  | .not a, sc, pe => match pe with
    | .UnaryOp .Not a' _ => !isIfE a' && chkE a sc a'
    | _ => false
  | .ite c a b, sc, pe => match pe with
    | .IfExp c' a' b' _ => !isIfE c' && chkE c sc c' && chkE a sc a' && chkE b sc b'
    | _ => false
  | .ix a b, sc, pe => match pe with
    | .Subscript a' b' _ => !isSlcE b' && chkE a sc a' && chkE b sc b'
    | _ => false
  | .slc a lo hi, sc, pe => match pe with
    | .Subscript a' (.Slice lo' hi' none _) _ => chkE a sc a' && chkO lo sc lo' && chkO hi sc hi'
    | _ => false
  | .rev a, sc, pe => match pe with
    | .Subscript a' (.Slice none none (some st) _) _ => isM1 st && chkE a sc a'
    | _ => false
  | .call f es, sc, pe => match pe with
    | .Call (.Name x _) ps [] _ => decide ((T[f]?).map (·.name) = some x) && isGlb (sc.names.lookup x) && plainN x && !ps.isEmpty && noStar ps && chkEs es sc ps
    | _ => false
  | .bi b es, sc, pe => match pe with
    | .Call (.Name x _) ps [] _ => isGlb (sc.names.lookup x) && noStar ps && (match b with
      | .isi t => match ps with
        | [a, .Name y _] => decide (x = "isinstance") && isGlb (sc.names.lookup y) && decide ((y, t) ∈ tyNm) && chkEs es sc [a]
        | _ => false
      | .rng => match ps with
        | [.Call (.Name y _) [c, d] [] _] => decide (x = "list") && decide (y = "range") && isGlb (sc.names.lookup y) && !isStar c && !isStar d && chkEs es sc [c, d]
        | _ => false
      | .rng1 => match ps with
        | [.Call (.Name y _) [c] [] _] => decide (x = "list") && decide (y = "range") && isGlb (sc.names.lookup y) && !isStar c && chkEs es sc [c]
        | _ => false
      | .sset => match ps with
        | [.Call (.Name y _) [c] [] _] => decide (x = "sorted") && decide (y = "set") && isGlb (sc.names.lookup y) && !isStar c && chkEs es sc [c]
        | _ => false
      | b => decide ((biV b).map (·.1) = some x) && !ps.isEmpty && chkEs es sc ps)
    | _ => false
  | .ext a b, sc, pe => match pe with
    | .Call (.Attribute a' m apos) [b'] [] pos => decide (m = "extend") && isNameE a' && !isStar b' && (apos.endLine == pos.line) && chkE a sc a' && chkE b sc b'
    | _ => false
  | .app a b, sc, pe => match pe with
    | .Call (.Attribute a' m apos) [b'] [] pos => decide (m = "append") && isNameE a' && !isStar b' && (apos.endLine == pos.line) && chkE a sc a' && chkE b sc b'
    | _ => false
  | .lc vs t k its cs elt, sc, pe => match pe with
    | .ListComp elt' [⟨tg, iter, ifs, asy⟩] scope _ => decide (asy = 0) && blkC N sc scope (vs.map fun i => (N.getD i "", i)) && chkTg N scope tg t && t.ix.all (fun i => decide (i ∈ vs)) && !isSetE iter &&
        (match itArgs sc k iter with
          | some ps => chkEs its sc ps
          | none => false) && chkTs cs scope ifs && chkE elt scope elt'
    | _ => false
def chkEs : List E → Scope → List Expr → Bool
  | [], sc, ps => ps.isEmpty
  | e :: es, sc, ps => match ps with
    | [] => false
    | p :: ps => chkE e sc p && chkEs es sc ps
def chkTs : List E → Scope → List Expr → Bool
  | [], sc, ps => ps.isEmpty
  | e :: es, sc, ps => match ps with
    | [p] => !isIfE p && es.isEmpty && chkE e sc p
    | _ => false
def chkO : Option E → Scope → Option Expr → Bool
  | none, sc, po => po.isNone
  | some e, sc, po => match po with
    | some p => chkE e sc p
    | none => false
end
end
section
variable {Γ : Gm} {n : Nat} {N : List Str} {sc : Scope}
theorem SndE.congr {pe : Expr} {f g : Loc → Sto → Option (R D)} (h : SndE Γ n N sc pe f) (e : ∀ ρ S, g ρ S = f ρ S) : SndE Γ n N sc pe g := by
  have : g = f := by funext ρ S; exact e ρ S
  rw [this]; exact h
theorem SndT.congr {pe : Expr} {f g : Loc → Sto → Option (R Bool)} (h : SndT Γ n N sc pe f) (e : ∀ ρ S, g ρ S = f ρ S) : SndT Γ n N sc pe g := by
  have : g = f := by funext ρ S; exact e ρ S
  rw [this]; exact h
theorem SndI.congr {pe : Expr} {f g : Loc → Sto → Option (R (List D × Option Nat))} (h : SndI Γ n N sc pe f) (e : ∀ ρ S, g ρ S = f ρ S) : SndI Γ n N sc pe g := by
  have : g = f := by funext ρ S; exact e ρ S
  rw [this]; exact h
theorem SndA.congr {pe : List Expr} {f g : Loc → Sto → Option (R (List D))} (h : SndA Γ n N sc pe f) (e : ∀ ρ S, g ρ S = f ρ S) : SndA Γ n N sc pe g := by
  have : g = f := by funext ρ S; exact e ρ S
  rw [this]; exact h
theorem noStar_all {ps : List Expr} (h : noStar ps = true) : ∀ e ∈ ps, isStar e = false := fun e he => by
  have := List.all_eq_true.mp h e he
  simpa using this
/-- both readings -/
def Snd2 (Γ : Gm) (n : Nat) (N : List Str) (sc : Scope) (pe : Expr) (f : Loc → Sto → Option (R D)) : Prop := SndE Γ n N sc pe f ∧ (isIfE pe = false → SndT Γ n N sc pe (fun ρ S => tst (f ρ S)))
theorem Snd2.of {pe : Expr} {f g : Loc → Sto → Option (R D)} (h : SndE Γ n N sc pe f) (hp : plainT pe = true) (e : ∀ ρ S, g ρ S = f ρ S) : Snd2 Γ n N sc pe g := ⟨h.congr e, fun _ => (h.test hp).congr fun ρ S => by rw [e]⟩
theorem map_eq {α β : Type} {x : Option α} {f : α → β} {y : β} (h : x.map f = some y) : ∃ a, x = some a ∧ f a = y := by
  cases x with
  | none => cases h
  | some a => exact ⟨a, rfl, by simpa using h⟩
theorem len2 {α : Type} {l : List α} (h : l.length = 2) : ∃ a b, l = [a, b] := by
  match l, h with
  | [a, b], _ => exact ⟨a, b, rfl⟩
theorem len3 {α : Type} {l : List α} (h : l.length = 3) : ∃ a b c, l = [a, b, c] := by
  match l, h with
  | [a, b, c], _ => exact ⟨a, b, c, rfl⟩
theorem snd_it (F : Γ.Facts) {k : Ik} {iter : Expr} {ps : List Expr} {its : List E} {G : List D} {cal : Cal} (h : itArgs sc k iter = some ps) (hs : Sn Γ n N sc (evE G cal) its ps) :
    SndI Γ n N sc iter (fun ρ S => bnd (evEs G cal its ρ S) fun ds S1 => (itD S1 k ds).map fun q => .ok q S1) := by
  cases k with
  | seq =>
    cases h
    cases hs with
    | cons h1 h2 h3 =>
      cases h3
      refine (snd_seq h1).congr fun ρ S => ?_
      simp [evEs]
  | rng1 =>
    unfold itArgs at h
    dsimp only at h
    split at h
    · rename_i x p ps' pos
      obtain ⟨g1, g2⟩ := if_some h
      subst g2
      simp only [Bool.and_eq_true, decide_eq_true_eq, beq_iff_eq] at g1
      obtain ⟨⟨⟨e1, e2⟩, e3⟩, e4⟩ := g1
      subst e1
      have st := noStar_all e3
      have ha := hs.args st
      obtain ⟨a, rfl⟩ := List.length_eq_one_iff.mp e4
      exact snd_irng1 F ha (st a (by simp)) e2
    · cases h
  | rng2 =>
    unfold itArgs at h
    dsimp only at h
    split at h
    · rename_i x p ps' pos
      obtain ⟨g1, g2⟩ := if_some h
      subst g2
      simp only [Bool.and_eq_true, decide_eq_true_eq, beq_iff_eq] at g1
      obtain ⟨⟨⟨e1, e2⟩, e3⟩, e4⟩ := g1
      subst e1
      have st := noStar_all e3
      have ha := hs.args st
      obtain ⟨a, b, rfl⟩ := len2 e4
      exact snd_irng2 F ha (st a (by simp)) (st b (by simp)) e2
    · cases h
  | rng3 =>
    unfold itArgs at h
    dsimp only at h
    split at h
    · rename_i x p ps' pos
      obtain ⟨g1, g2⟩ := if_some h
      subst g2
      simp only [Bool.and_eq_true, decide_eq_true_eq, beq_iff_eq] at g1
      obtain ⟨⟨⟨e1, e2⟩, e3⟩, e4⟩ := g1
      subst e1
      have st := noStar_all e3
      have ha := hs.args st
      obtain ⟨a, b, c, rfl⟩ := len3 e4
      exact snd_irng3 F ha (st a (by simp)) (st b (by simp)) (st c (by simp)) e2
    · cases h
end
end Mi

end
section
set_option Elab.async false
set_option linter.all false
set_option maxRecDepth 100000
set_option maxHeartbeats 1000000
/-! t[::-1], a tuple. -/
namespace Mi
open PySem L2 PySem.Spec PyProof.Rows HT
section
variable {prog : Program} {w : World} {A : Around} {E : Value → Shared → Prop} {s : Shared}
theorem applied_back {sl : Addr} {vs : Value} {n : Nat} {Q : Int × Int × Nat → Shared → Prop} (hs : s.heap.IsSliceOf sl .none .none vs) (ps : IsPart vs (some (-1)))
    (h : Q ((n : Int) - 1, -1, n) s) : wpAny (model prog w) A (Builtin.Slice.sliceApplied (.ref sl) (pure (n : Int))) Q E s := by
  obtain ⟨os, hos, hcs, hds⟩ := id hs
  unfold Builtin.Slice.sliceApplied Builtin.Slice.sliceFields
  refine wpAny_bind (wpAny_bind (wpAny_field hos hds (x := .none) rfl (wpAny_bind (wpAny_field hos hds (x := .none) rfl (wpAny_bind (wpAny_field hos hds (x := vs) rfl (wpAny_pure ?_)))))))
  refine wpAny_bind (slicePart_ ps ?_)
  show wpAny _ _ (if ((-1 : Int) == 0) = true then _ else _) _ _ s
  rw [if_neg (by decide)]
  refine wpAny_bind (slicePart_none (wpAny_bind (slicePart_none (wpAny_bind (wpAny_pure ?_)))))
  have e : Builtin.Slice.slicePlaces ((n : Int) - 1) (-1) (-1) = n := by
    unfold Builtin.Slice.slicePlaces
    have h1 : ¬ ((-1 : Int) > 0) := by decide
    simp only [h1, if_false, Int.neg_neg, Int.ediv_one]
    split <;> omega
  show wpAny _ _ (pure ((n : Int) - 1, (-1 : Int), Builtin.Slice.slicePlaces ((n : Int) - 1) (-1) (-1))) _ _ s
  rw [e]
  exact wpAny_pure h
theorem fmap_congr {α β : Type} {f g : α → Option β} : ∀ {l : List α}, (∀ x ∈ l, f x = g x) → l.filterMap f = l.filterMap g
  | [], _ => rfl
  | x :: l, h => by
    rw [List.filterMap_cons, List.filterMap_cons, h x List.mem_cons_self, fmap_congr fun y hy => h y (List.mem_cons_of_mem _ hy)]
theorem pick_back (xs : Array Value) : ((List.range xs.size).filterMap fun (m : Nat) => xs[((xs.size : Int) - 1 + (m : Int) * (-1)).toNat]?) = xs.toList.reverse := by
  have e : ((List.range xs.size).filterMap fun (m : Nat) => xs[((xs.size : Int) - 1 + (m : Int) * (-1)).toNat]?) = ((List.range xs.size).map fun k => xs.size - 1 - k).filterMap (xs[·]?) := by
    rw [List.filterMap_map]
    refine fmap_congr fun m hm => ?_
    have hm := List.mem_range.mp hm
    have : ((xs.size : Int) - 1 + (m : Int) * (-1)).toNat = xs.size - 1 - m := by omega
    rw [this]
    rfl
  rw [e, PySem.W.krv_range, List.filterMap_reverse, PySem.W.krv_all]
theorem getItem_tuple_back {t sl : Addr} {items : Array Value} {vs : Value} {Q : Value → Shared → Prop} (ht : IsTup s.heap t items) (hs : s.heap.IsSliceOf sl .none .none vs) (ps : IsPart vs (some (-1)))
    (h : Q (.ref s.heap.objs.size) { s with heap := s.heap.push { cls := .type "tuple", data := .seq items.toList.reverse.toArray } })
    (hsz : items.size ≤ sizeLine) : wpAny (model prog w) A (getItem (.ref t) (.ref sl)) Q E s := by
  have hrev : sizeOk (.seq items.toList.reverse.toArray) := by
    show items.toList.reverse.toArray.size ≤ sizeLine
    rw [List.size_toArray, List.length_reverse, Array.length_toList]
    exact hsz
  obtain ⟨os, hos, hcs, hds⟩ := id hs
  have hTs : s.TypeIs (.ref sl) "slice" := ⟨os, hos, hcs⟩
  unfold getItem
  try with_reducible refine wpAny_holding ?_
  first | refine wpAny_bind (wpAny_pure ?_) | skip
  refine wpAny_bind (wpAny_sequenceKey ht.typeIs (by decide) ?_)
  refine wpAny_bind (wpAny_callSpecial?_slot (name := Str.ofString "__getitem__") ht.typeIs PyProof.Rows.slot_tuple_getitem
    (wpAny_call_entry PyProof.Rows.slot_tuple_getitem ht.typeIs entry_tuple_getitem ?_ (args_tuple_getitem _ _)))
  show wpAny _ _ (Builtin.Tuple.tupleItemsOf (.ref t) >>= _) _ _ s
  refine wpAny_bind (tupleItemsOf_ ht ?_)
  refine wpAny_bind (wpAny_typeOf hTs ?_)
  rw [if_pos (by decide)]
  refine wpAny_bind (applied_back hs ps ?_)
  have hno : ¬ ((((items.size : Int) - 1) == 0 && (-1 : Int) == 1 && items.size == items.size) = true) := by
    have z : ((-1 : Int) == 1) = false := by decide
    rw [z, Bool.and_false, Bool.false_and]
    exact Bool.false_ne_true
  show wpAny _ _ (if (((items.size : Int) - 1) == 0 && (-1 : Int) == 1 && items.size == items.size) = true then _ else _) _ _ s
  rw [if_neg hno, pick_back]
  first
    | exact wpAny_bind (m := Builtin.Tuple.tupleExact _) (wpAny_newObj_type (wpAny_pure ⟨_, rfl, wpAny_pure h⟩) hrev)
    | exact wpAny_bind (m := Builtin.Tuple.tupleExact _) (wpAny_newObj_type (wpAny_bind (wpAny_pure (wpAny_pure ⟨_, rfl, wpAny_pure h⟩))) hrev)
    | exact wpAny_bind (wpAny_bind (m := Builtin.Tuple.tupleExact _) (wpAny_newObj_type (wpAny_pure (wpAny_pure ⟨_, rfl, wpAny_pure h⟩)) hrev))
    | exact wpAny_bind (wpAny_bind (m := Builtin.Tuple.tupleExact _) (wpAny_newObj_type (wpAny_pure ⟨_, rfl, wpAny_pure h⟩) hrev))
end
section
variable {X : Cx}
def tRevT (K : PySem.W.Frag) (te : TE) : TE := fun σ H Q => te σ H fun x H1 => ∃ a xs, x = .ref a ∧ SqT K H1 a xs ∧ ∀ p, H1 p = none → Q (.ref p) (upd H1 p (.tup xs.reverse))
theorem pe_revT {e : Expr} {te : TE} {k : Nat} {p1 p2 p3 pos : Pos} (he : PE X e te) : PE X (.Subscript e (.Slice none none (some (.UnaryOp .USub (.Constant (.int 1) k p1) p2)) p3) pos) (tRevT X.K te) := by
  refine ⟨fun pins s σ H Q I h => ?_⟩
  refine Subscript_ (thn (he.run pins s σ H _ I h) fun v s1 ⟨x, H1, I1, r1, q1⟩ => ?_)
  obtain ⟨a, xs, ex, hx, q⟩ := q1
  subst ex
  cases r1
  have hst : PO X (some (.UnaryOp .USub (.Constant (.int 1) k p1) p2)) (tPart (tUn (rU fun i => .int (-i)) (tC (.int 1)))) := po_some (pe_un un_neg pe_int)
  refine wpAny_Slice (thn (po_none.run pins s1 σ H1 (fun o H2 => o = none ∧ H2 = H1) I1 ⟨rfl, rfl⟩) fun vl s2 ⟨l, H2, I2, pl, el, e2⟩ => ?_)
  subst el e2
  refine thn (po_none.run pins s2 σ H2 (fun o H3 => o = none ∧ H3 = H2) I2 ⟨rfl, rfl⟩) fun vu s3 ⟨u, H3, I3, pu, eu, e3⟩ => ?_
  subst eu e3
  refine thn (hst.run pins s3 σ H3 (fun o H4 => o = some (-1) ∧ H4 = H3) I3 ⟨1, rfl, -1, rfl, rfl, rfl⟩) fun vs s4 ⟨o, H4, I4, ps, eo, e4⟩ => ?_
  subst eo e4
  have I5 : L2.Inv X pins σ H4 { s4 with heap := s4.heap.push { cls := .type "slice", data := .fields #[vl, vu, vs] } } := I4.kept (t' := s4.toks) fun b ob q => Heap.get?_push_of_some _ q
  obtain ⟨its, r, ht, hz⟩ := I5.tuple hx
  have hlen := r.length
  show wpAny (model X.prog X.w) X.A (subscriptTail e (.Slice none none (some (.UnaryOp .USub (.Constant (.int 1) k p1) p2)) p3) (.ref a) (.ref s4.heap.objs.size)) (EP X pins σ Q) X.xe { s4 with heap := s4.heap.push { cls := .type "slice", data := .fields #[vl, vu, vs] } }
  refine tail_any (ops := [.ref a, .ref s4.heap.objs.size]) ht.typeIs PyProof.Rows.slot_tuple_getitem.lookup ?_ (by with_unfolding_all rfl)
  cases pl
  cases pu
  refine getItem_tuple_back ht (Heap.IsSliceOf.new _ .none .none vs) ps ?_ (by rw [List.size_toArray]; omega)
  refine ⟨.ref _, _, I5.laid (t' := s4.toks) (o := .tup xs.reverse) (fun b ob q => Heap.get?_push_of_some _ q) (Nat.le_refl _) ?_, rfl, q _ (I5.hok.fresh (Nat.le_refl _))⟩
  exact ⟨by rw [List.length_reverse]; exact hz, _, r.reverse, IsTup.new _ _⟩
end
section
variable {Γ : Gm} {n : Nat} {N : List Str} {sc : Scope}
theorem snd_rev {a : Expr} {k : Nat} {p1 p2 p3 pos : Pos} {f : Loc → Sto → Option (R D)} (ha : SndE Γ n N sc a f) : SndE Γ n N sc (.Subscript a (.Slice none none (some (.UnaryOp .USub (.Constant (.int 1) k p1) p2)) p3) pos) (fun ρ S => bnd (f ρ S) fun x S1 => lift2 (revD S1 x)) := fun E => by
  obtain ⟨t, h1, h2⟩ := ha E
  refine ⟨tRevT Γ.K t, fun X gd hx => ?_, ?_⟩
  · have z : PE X (.Subscript a (.Slice none none (some (.UnaryOp .USub (.Constant (.int 1) k p1) p2)) p3) pos) (tRevT X.K t) := pe_revT (h1 X gd hx)
    rw [gd.K] at z
    exact z
  · intro m H S ρ σ rr Q rel vo hf p
    refine ref_bnd h2 rel vo hf p fun x S1 v H1 m1 e1 rel1 vo1 hv hf p => ?_
    cases x with
    | tup ds =>
      have hf : some (R.ok (D.tup ds.reverse) S1) = some rr := hf
      cases hf
      obtain ⟨b, xs, e, g1, g2⟩ := hv
      refine ⟨b, xs, e, g1, fun q hq => ?_⟩
      obtain ⟨a1, a2, a3⟩ := new_tup rel1 hq g2.reverse
      exact post_ok p a1 a2 a3
    | _ => cases hf
end
end Mi

end
section
set_option Elab.async false
set_option linter.all false
set_option maxRecDepth 100000
set_option maxHeartbeats 3200000
/-! sorted(set(a list of ints)), any number of them below the scan's bound. -/
namespace Mi
open PySem L2 PySem.Spec PyProof.Rows
section
variable {prog : Program} {w : World} {A : Around} {R : Result → Shared → Prop} {I : Addr} {fp wr : List Addr} {G : Array GenState → Array GenState → Prop} {n : Nat} {P : Nat → Value → Prop} {St : Nat → Shared → Prop}
/-- the members so far, as the set's own table has them -/
def Mem (w : World) (h : Heap) (S : Addr) (val : Nat → Int) (i : Nat) : Prop := SetR w h S (fun k => (firstMet val i).any (· == k)) (firstMet val i).length
theorem mem_turn (W : WalksS prog w A.in1 I fp wr G n P St) (S : Addr) (hSf : S ∉ fp) (val : Nat → Int) (hval : ∀ i v, P i v → ∃ t, v = .int (val i) t) (hb : n + 1 < scanBound) :
    ∀ (k i : Nat) (s : Shared), n - i = k → i ≤ n → St i s → Mem w s.heap S val i → (∀ s', Moved (S :: wr) G s s' → Mem w s'.heap S val n → R (.ok (.ret .none)) s') →
      codeAny (model prog w) A (.builtin "set.update.loop" ⟨[.ref S, .ref I], []⟩) R s := by
  have out : S ∉ wr := fun h => hSf (W.sub _ h)
  have more : ∀ b ∈ wr, b ∈ S :: wr := fun b hb => List.mem_cons_of_mem _ hb
  intro k
  induction k with
  | zero =>
    intro i s hk hi hst hS hR
    obtain rfl : i = n := by omega
    refine codeAny_builtin F.entry_set_update_loop ?_
    rw [Around.under_plainId F.plain_set_update_loop _]
    show wpAny _ A.in1 (pyNext (.ref I) >>= _) _ _ s
    refine wpAny_bind (W.done s _ _ hst fun s' hm => ?_)
    show wpAny _ A.in1 (ret Value.none) _ _ s'
    exact wpAny_pure (hR s' (hm.mono more) (SetR.at hS fun o ho => hm.heap S _ out ho))
  | succ k ih =>
    intro i s hk hi hst hS hR
    have hlt : i < n := by omega
    refine codeAny_builtin F.entry_set_update_loop ?_
    rw [Around.under_plainId F.plain_set_update_loop _]
    show wpAny _ A.in1 (pyNext (.ref I) >>= _) _ _ s
    refine wpAny_bind (W.item i s _ _ hlt hst fun v s' hP hst' hm => ?_)
    obtain ⟨t, rfl⟩ := hval i v hP
    have hS' : Mem w s'.heap S val i := SetR.at hS fun o ho => hm.heap S _ out ho
    show wpAny _ A.in1 (holding [Value.int (val i) t] (setAdd S (.int (val i) t)) >>= _) _ _ s'
    refine wpAny_bind (wpAny_holding ?_)
    unfold setAdd
    refine wpAny_holding ?_
    refine wpAny_bind ((intKind prog w).pyHash (k := val i) (intKind_is _ _ _ _) ?_)
    have room : (firstMet val i).length + 1 < scanBound := by have := firstMet_length_le val i; omega
    refine setR_add_hashed (s := { s' with toks := s'.toks + 1 }) hS' room fun h' sb hS2 => ?_
    have hSi : Mem w h' S val (i + 1) := by
      unfold Mem
      have e1 : (fun k' => (firstMet val (i + 1)).any (· == k')) = fun j => (firstMet val i).any (· == j) || decide (j = val i) := by
        funext k'; rw [firstMet_succ, step_any]
      have e2 : (firstMet val (i + 1)).length = if ((firstMet val i).any (· == val i)) = true then (firstMet val i).length else (firstMet val i).length + 1 := by rw [firstMet_succ, step_length]
      rw [e1, e2]
      exact hS2
    refine wpAny_pure ⟨plainId_quiet F.plain_set_update_loop _, ih (i + 1) _ (by omega) hlt (W.frame _ s' _ _ hst' (Nat.le_succ _) fun b hb o e => ?_) hSi fun s'' hm'' hS'' => ?_⟩
    · rw [sb.2 b (fun h : b = S => hSf (by rw [← h]; exact hb))]; exact e
    · refine hR s'' (Moved.trans W.gtrans ((hm.mono more).then_heap (Nat.le_succ _) fun b o hb e => ?_) hm'') hS''
      rw [sb.2 b (fun h : b = S => hb (by rw [h]; exact List.mem_cons_self))]; exact e
end
section
variable {prog : Program} {w : World} {A : Around} {E : Value → Shared → Prop} {s : Shared}
/-- the set's record as it is made: led where the world asks for it -/
theorem fresh_led (a : Value) {Q₁ : Value → Shared → Prop}
    (h : Q₁ (.ref s.heap.objs.size) { s with heap := s.heap.push { cls := .type "set", dict := none, data := .set #[] 0 (.fresh 0 0 (!w.params.followText "set-order")) } }) :
    codeAny (model prog w) A (.call (.builtin "set.__new__") ⟨[.type "set", a], []⟩) (wants Q₁ E) s := by
  refine codeAny_of_tree ?_
  show wpAny _ A.in1 (do checkBuiltinCall "set.__new__" ⟨[.type "set", a], []⟩; again (.builtin "set.__new__" ⟨[.type "set", a], []⟩)) _ _ s
  refine wpAny_bind (wpAny_of_eq (PySem.F.newCall_set_1 a) (wpAny_pure ⟨plainId_quiet F.plain_set_new _, codeAny_builtin F.entry_set_new ?_⟩))
  rw [Around.under_plainId F.plain_set_new _]
  unfold Builtin.«set.__new__» Builtin.Frozenset.newClass
  have hsub := sub_set_self
  obtain ⟨hp, g, d, tk, os⟩ := s
  dsimp only
  wp_walk
  refine wpAny_askSetting (wpAny_pure ?_)
  dsimp only
  simp only [newObj]
  refine wpAny_bind (wpAny_alloc (wpAny_pure ?_))
  exact wpAny_pure h
theorem set_of_list {l : Addr} {items : Array Value} {ns : List Int} {Q : Value → Shared → Prop}
    (hh : A.handled = none) (hl : s.heap.IsList l items) (hi : PyProof.Rows.IntsAre items.toList ns) (hb : items.size + 1 < scanBound)
    (h : ∀ (h' : Heap) (tk : Nat), Mem w h' s.heap.objs.size (fun i => ns.getD i 0) items.size → (∀ b o, b < s.heap.objs.size → s.heap.get? b = some o → h'.get? b = some o) → Q (.ref s.heap.objs.size) { s with heap := h', toks := tk }) :
    wpAny (model prog w) A (call (.type "set") [.ref l]) Q E s := by
  obtain ⟨c, tl, hmro⟩ := PySem.F.called_set.mro
  have hmade := PySem.F.called_set.made
  have hsub := PySem.F.called_set.sub
  refine wpAny_call (codeAny_of_tree ?_)
  show wpAny _ _ (callAny (.type "set") _) _ _ _
  refine wpAny_pure ⟨Code.quiet_builtin _ (by decide +kernel), codeAny_builtin PySem.F.entry_type_call ?_⟩
  rw [Around.under_plain (weight_type_call_type "set" [.ref l] []) rfl]
  have h1 := PySem.F.called_set.notType
  have h2 := PySem.F.called_set.canCreate
  have hct := PySem.F.typeCall_set_1 (.ref l)
  repeat (any_goals (first | assumption | wp_step))
  generalize hled : (!w.params.followText "set-order") = led
  refine codeAny_mono (fresh_led (.ref l) (E := E) (Q₁ := fun obj s₁ => obj = .ref s.heap.objs.size ∧ s₁ = { s with heap := s.heap.push { cls := .type "set", dict := none, data := .set #[] 0 (.fresh 0 0 led) } }) (by subst hled; exact ⟨rfl, rfl⟩)) fun r s₁ hr => ?_
  cases r with
  | error e => exact hr
  | ok fl =>
    cases fl with
    | ret obj =>
      obtain ⟨rfl, rfl⟩ := hr
      have hS : (s.heap.push { cls := .type "set", dict := none, data := .set #[] 0 (.fresh 0 0 led) }).get? s.heap.objs.size = some { cls := .type "set", dict := none, data := .set #[] 0 (.fresh 0 0 led) } := Heap.get?_push_size _ rfl
      have hT : Shared.TypeIs { s with heap := s.heap.push { cls := .type "set", dict := none, data := .set #[] 0 (.fresh 0 0 led) } } (.ref s.heap.objs.size) "set" := ⟨_, hS, rfl⟩
      have hli := PySem.F.called_set.init.lookup
      have hbi := PySem.F.called_set.init.bind (.ref s.heap.objs.size)
      repeat (any_goals (first | assumption | wp_step))
      refine codeAny_mono (codeAny_call_builtin (R := wants (fun r s₂ => r = .none ∧ ∃ h' tk, s₂ = { s with heap := h', toks := tk } ∧ Mem w h' s.heap.objs.size (fun i => ns.getD i 0) items.size ∧
          (∀ b o, b < s.heap.objs.size → s.heap.get? b = some o → h'.get? b = some o)) E) PySem.F.called_set.init.plain PySem.F.entry_set_init (check_set_init_1 hT ?_)) fun r₂ s₂ hr₂ => ?_
      · obtain ⟨ol, hol, hcl, nl, hdl⟩ := hl
        obtain ⟨ocls, odict, odata, oslots⟩ := ol
        simp only at hcl hdl
        subst hcl; subst hdl
        have hol' : (s.heap.push { cls := .type "set", dict := none, data := .set #[] 0 (.fresh 0 0 led) }).get? l = some { cls := .type "list", dict := odict, data := .seq items nl, slots := oslots } := Heap.get?_push_of_some _ hol
        have hsls := PySem.F.sub_list_set
        have hslf := PySem.F.sub_list_frozenset
        have hne : (Value.type "list" == Value.type "dict") = false := by decide
        have hl1 : (s.heap.push { cls := .type "set", dict := none, data := .set #[] 0 (.fresh 0 0 led) }).IsList l items := ⟨_, hol', rfl, nl, rfl⟩
        unfold Builtin.«set.__init__» noKeywords Builtin.Frozenset.updateFrom
        generalize hPI : pyIter = PI
        wp_walk
        subst hPI
        refine wpAny_pyIter_list hl1 ?_
        refine wpAny_bind (wpAny_runValue ?_)
        have hlS : l < s.heap.objs.size := Heap.lt_size hol
        have hh3 : A.in1.in1.in1.handled = none := by simp [hh]
        have hneI : l ≠ (s.heap.push { cls := .type "set", dict := none, data := .set #[] 0 (.fresh 0 0 led) }).objs.size := by
          rw [Heap.size_push]; exact Nat.ne_of_lt (Nat.lt_succ_of_lt hlS)
        have hSf : s.heap.objs.size ∉ [(s.heap.push { cls := .type "set", dict := none, data := .set #[] 0 (.fresh 0 0 led) }).objs.size, l] := by
          rw [Heap.size_push]; simp only [List.mem_cons, List.mem_singleton, List.not_mem_nil, or_false, not_or]
          exact ⟨Nat.ne_of_lt (Nat.lt_succ_self _), Nat.ne_of_gt hlS⟩
        have hval : ∀ (i : Nat) (v : Value), items[i]? = some v → ∃ t, v = .int ((fun i => ns.getD i 0) i) t := fun i v hv =>
          PyProof.Rows.IntsAre.int_at hi i v (by rw [Array.getElem?_toList]; exact hv)
        refine mem_turn ((Walks.list hh3 _ l hneI items).toS) s.heap.objs.size hSf (fun i => ns.getD i 0) hval hb (items.size - 0) 0 _ (by omega) (Nat.zero_le _)
          ⟨⟨_, Heap.get?_push_size _ rfl, rfl, rfl⟩, (hl1.push _)⟩ ?hS0 ?hR
        case hS0 =>
          have z : Mem w (s.heap.push { cls := .type "set", dict := none, data := .set #[] 0 (.fresh 0 0 led) }) s.heap.objs.size (fun i => ns.getD i 0) 0 := by
            subst hled
            exact setR_fresh w
          exact SetR.at z fun o e => Heap.get?_push_of_some _ e
        case hR =>
          intro s' hm hS'
          obtain ⟨h', g', d', tk', os'⟩ := s'
          have eg : g' = s.gens := hm.gens
          have ed : d' = s.drawn := hm.drawn
          have eo : os' = s.os := hm.os
          subst eg; subst ed; subst eo
          show wpAny _ _ _ _ _ _
          refine wpAny_pure ?_
          show wpAny _ _ (ret Value.none) _ _ _
          refine wpAny_pure ⟨rfl, h', tk', rfl, hS', fun b o hb e => ?_⟩
          have hb1 : b ≠ s.heap.objs.size := Nat.ne_of_lt hb
          have hb2 : b ≠ (s.heap.push { cls := .type "set", dict := none, data := .set #[] 0 (.fresh 0 0 led) }).objs.size := by
            rw [Heap.size_push]; exact Nat.ne_of_lt (Nat.lt_succ_of_lt hb)
          exact hm.heap b o (by simp only [List.mem_cons, List.mem_singleton, List.not_mem_nil, or_false, not_or]; exact ⟨hb1, hb2⟩) (Heap.get?_push_of_some _ (Heap.get?_push_of_some _ e))
      · cases r₂ with
        | error e => exact hr₂
        | ok fl₂ =>
          cases fl₂ with
          | ret r =>
            obtain ⟨rfl, h', tk, rfl, hS', hk'⟩ := hr₂
            repeat (any_goals (first | assumption | wp_step))
            exact h _ _ hS' hk'
          | _ => exact hr₂.elim
    | _ => exact hr.elim
/-- sorted, of a set of any size -/
theorem sorted_big {a : Addr} {S : Int → Bool} {n : Nat} {Q : Value → Shared → Prop} (R : SetR w s.heap a S n) (hh : A.handled = none)
    (hQ : ∀ s' p (out : List Value) (c : Nat) (ns : List Int), (∀ b o, s.heap.get? b = some o → s'.heap.get? b = some o) → s'.gens = s.gens → s'.os = s.os → s.heap.objs.size ≤ p →
      s'.heap.get? p = some (seqObj "list" out.toArray c) → IntsAre out ns → ns.Pairwise (· < ·) → (∀ k, k ∈ ns ↔ S k = true) → ns.length = n → Q (.ref p) s') :
    wpAny (model prog w) A (call (.builtin "sorted") [.ref a]) Q E s := by
  obtain ⟨o, es, ep, t, ho, hex, hd, g, nd, hm, hb, hf, hn, hr, hl⟩ := R
  refine Calls.call_function_entry kind_sorted plain_sorted entry_sorted (args_sorted1 _) ?_
  unfold Builtin.«sorted»
  refine wpAny_bind (m := checkCount "sorted" 1 1 _) (wpAny_pure ?_)
  refine wpAny_bind (collect_set (A := A.in1) hh ⟨o, ho, hex.1, hd⟩ hf hb hr hl fun s1 vs k1 hz g1 o1 pm => ?_)
  have hvl : vs.length = n := by rw [pm.length_eq, List.length_map, Array.length_toList]; exact hn
  have hI : IntsAre vs (vs.map Builtin.Re.reRawOf) := ints_of vs fun v hv => by
    obtain ⟨e, he, q⟩ := List.mem_map.mp (pm.mem_iff.mp hv)
    obtain ⟨k, tk, h1, _⟩ := g e he
    exact ⟨k, tk, by rw [← q]; exact h1⟩
  have pk : (vs.map Builtin.Re.reRawOf).Perm (es.toList.map keyOf) := by
    have q := pm.map Builtin.Re.reRawOf
    rw [List.map_map] at q
    exact q
  have hz2 : vs.length ≤ sizeLine := by
    have h1 : es.size < 4096 := hb
    have h2 : (4096 : Nat) ≤ sizeLine := by decide
    omega
  refine wpAny_bind (wpAny_newList ?_ hz2)
  have hoL : (s1.heap.push (seqObj "list" vs.toArray 0)).get? s1.heap.objs.size = some (seqObj "list" vs.toArray 0) := Heap.get?_push_size _ rfl
  refine wpAny_bind (wpAny_holding (wpAny_call_entry slot_list_sort ⟨_, hoL, rfl⟩ entry_list_sort (SrtO.list_sort_ord SrtO.swo_int hoL hz2 (fun h2 => SrtO.ints_sortable hI h2) fun out a1 a2 => ⟨_, rfl, ?_⟩) (args_list_sort _)))
  obtain ⟨b1, b2, b3⟩ := SrtO.ints_out hI a1 a2
  obtain ⟨c, hc⟩ := sortedHeap_at (vs := vs) (out := out.toArray) hoL
  have pn : (out.map SrtO.iv).Perm (es.toList.map keyOf) := b2.trans pk
  refine wpAny_pure ⟨_, rfl, hQ _ s1.heap.objs.size out c (out.map SrtO.iv) (fun b u e => ?_) g1 o1 hz hc b1 (lt_of_le_nodup _ b3 (pn.nodup_iff.mpr nd)) (fun k => by rw [pn.mem_iff, ← hm k]) ?_⟩
  · have q := k1 b u e
    have hlt := Heap.lt_size q
    show (sortedHeap (s1.heap.push (seqObj "list" vs.toArray 0)) s1.heap.objs.size vs out.toArray).get? b = some u
    rw [sortedHeap_old (Nat.ne_of_lt hlt) (by rw [size_push']; exact Nat.lt_succ_of_lt hlt)]
    exact Heap.get?_push_of_some _ q
  · rw [pn.length_eq, List.length_map, Array.length_toList]; exact hn
end
end Mi

end
section
set_option Elab.async false
set_option linter.all false
set_option maxRecDepth 100000
set_option maxHeartbeats 1000000
/-! sorted(set(..)), shown. -/
namespace Mi
open PySem L2 PySem.Spec PyProof.Rows
/-! ### the plain side -/
theorem insU_mem (x k : Int) : ∀ l : List Int, k ∈ insU x l ↔ k = x ∨ k ∈ l
  | [] => by simp [insU]
  | y :: ys => by
    unfold insU
    by_cases h1 : x < y
    · rw [if_pos h1]; simp
    · rw [if_neg h1]
      by_cases h2 : x = y
      · subst h2; simp
      · rw [if_neg h2, List.mem_cons, insU_mem x k ys, List.mem_cons]
        constructor
        · rintro (h | h | h)
          · exact .inr (.inl h)
          · exact .inl h
          · exact .inr (.inr h)
        · rintro (h | h | h)
          · exact .inr (.inl h)
          · exact .inl h
          · exact .inr (.inr h)
theorem insU_asc (x : Int) : ∀ l : List Int, l.Pairwise (· < ·) → (insU x l).Pairwise (· < ·)
  | [], _ => by simp [insU]
  | y :: ys, h => by
    obtain ⟨a, b⟩ := List.pairwise_cons.mp h
    unfold insU
    by_cases h1 : x < y
    · rw [if_pos h1]
      refine List.pairwise_cons.mpr ⟨fun z hz => ?_, h⟩
      rcases List.mem_cons.mp hz with e | e
      · rw [e]; exact h1
      · exact Int.lt_trans h1 (a z e)
    · rw [if_neg h1]
      by_cases h2 : x = y
      · rw [if_pos h2]; exact h
      · rw [if_neg h2]
        refine List.pairwise_cons.mpr ⟨fun z hz => ?_, insU_asc x ys b⟩
        rcases (insU_mem x z ys).mp hz with e | e
        · rw [e]; omega
        · exact a z e
theorem ssetI_mem (k : Int) : ∀ l : List Int, k ∈ ssetI l ↔ k ∈ l
  | [] => by simp [ssetI]
  | x :: l => by
    show k ∈ insU x (ssetI l) ↔ _
    rw [insU_mem, ssetI_mem k l, List.mem_cons]
theorem ssetI_asc : ∀ l : List Int, (ssetI l).Pairwise (· < ·)
  | [] => by simp [ssetI]
  | x :: l => insU_asc x _ (ssetI_asc l)
theorem asc_same : ∀ {a b : List Int}, a.Pairwise (· < ·) → b.Pairwise (· < ·) → (∀ k, k ∈ a ↔ k ∈ b) → a = b
  | [], [], _, _, _ => rfl
  | [], y :: _, _, _, h => absurd ((h y).mpr List.mem_cons_self) (by simp)
  | x :: _, [], _, _, h => absurd ((h x).mp List.mem_cons_self) (by simp)
  | x :: a, y :: b, ha, hb, h => by
    obtain ⟨a1, a2⟩ := List.pairwise_cons.mp ha
    obtain ⟨b1, b2⟩ := List.pairwise_cons.mp hb
    have e : x = y := by
      rcases List.mem_cons.mp ((h x).mp List.mem_cons_self) with e | e
      · exact e
      · rcases List.mem_cons.mp ((h y).mpr List.mem_cons_self) with q | q
        · exact q.symm
        · have := b1 x e
          have := a1 y q
          omega
    subst e
    rw [asc_same a2 b2 fun k => ?_]
    constructor
    · intro hk
      rcases List.mem_cons.mp ((h k).mp (List.mem_cons_of_mem _ hk)) with e | e
      · have := a1 k hk; omega
      · exact e
    · intro hk
      rcases List.mem_cons.mp ((h k).mpr (List.mem_cons_of_mem _ hk)) with e | e
      · have := b1 k hk; omega
      · exact e
theorem firstMet_mem (val : Nat → Int) (k : Int) : ∀ i, (firstMet val i).any (· == k) = true ↔ ∃ j, j < i ∧ val j = k
  | 0 => by simp [firstMet]
  | i + 1 => by
    rw [firstMet_succ, step_any, Bool.or_eq_true, firstMet_mem val k i, decide_eq_true_eq]
    constructor
    · rintro (⟨j, h1, h2⟩ | h)
      · exact ⟨j, by omega, h2⟩
      · exact ⟨i, by omega, h.symm⟩
    · rintro ⟨j, h1, h2⟩
      by_cases e : j = i
      · subst e; exact .inr h2.symm
      · exact .inl ⟨j, by omega, h2⟩
/-! ### the call -/
section
variable {X : Cx}
def tSset (K : PySem.W.Frag) (te : TE) : TE := fun σ H Q => te σ H fun x H1 => ∃ l ns, x = V.ref l ∧ SqL K H1 l (ns.map V.int) ∧ ns.length < 4000 ∧ ∀ p, H1 p = none → Q (.ref p) (upd H1 p (.lst ((ssetI ns).map V.int)))
theorem pe_sset {a : Expr} {ta : TE} {p p2 q pos : Pos} (hc : X.calm = true) (hg : Gl X "sorted") (hm : X.mg "sorted" = none) (hg2 : Gl X "set") (hm2 : X.mg "set" = none) (ha : PE X a ta)
    (na : starEach [a] X.env = (false, eval a X.env) :: starEach [] X.env) : PE X (.Call (.Name "sorted" p) [.Call (.Name "set" p2) [a] [] q] [] pos) (tSset X.K ta) := by
  refine ⟨fun pins s σ H Q I h => ?_⟩
  refine Call_ (ld_blt I hg hm boot_sorted ?_)
  refine PyProof.Rows.callWith_builtin1 (PyProof.Rows.args_cons ?_ rfl) rfl rfl
  refine Call_ (ld_blt I hg2 hm2 boot_set ?_)
  refine PyProof.Rows.callWith_type1 (PyProof.Rows.args_cons (thn (ha.run pins s σ H _ I h) fun v s1 ⟨x, H1, I1, r1, q1⟩ => PyProof.Rows.args_nil ?_) na) na rfl
  obtain ⟨l, ns, rfl, hq, h1, q1⟩ := q1
  cases r1
  obtain ⟨its, r, pl, hz⟩ := I1.list hq
  have hl : its.toArray.size = ns.length := by rw [List.size_toArray, ← r.length, List.length_map]
  refine set_of_list (I1.ok.hd hc) pl.isList (ns := ns) (by simpa using r.ints) (by rw [hl]; unfold scanBound; omega) fun h' tk hS hk => ?_
  rw [hl] at hS
  refine PyProof.Rows.args_nil ?_
  have I2 : L2.Inv X pins σ H1 { s1 with heap := h', toks := tk } := I1.kept fun b o e => hk b o (Heap.lt_size e) e
  refine sorted_big hS (I2.ok.hd hc) fun s' p out c ns' k g o hp hg hi hs hm hl => ?_
  have es : ns' = ssetI ns := asc_same hs (ssetI_asc ns) fun k => by
    rw [hm k, firstMet_mem, ssetI_mem]
    constructor
    · rintro ⟨j, h1, h2⟩
      rw [← h2]
      have : ns.getD j 0 = ns[j] := by simp [List.getD, List.getElem?_eq_getElem h1]
      show ns.getD j 0 ∈ ns
      rw [this]
      exact List.getElem_mem h1
    · intro hk
      obtain ⟨j, h1, h2⟩ := List.getElem_of_mem hk
      exact ⟨j, h1, by show ns.getD j 0 = k; simp [List.getD, List.getElem?_eq_getElem h1, h2]⟩
  subst es
  have hln : ∀ (val : Nat → Int) (i : Nat), (firstMet val i).length ≤ i := firstMet_length_le
  have hlen : ((ssetI ns).map V.int).length ≤ sizeLine := by
    rw [List.length_map, hl]
    have h3 := hln (fun i => ns.getD i 0) ns.length
    have h4 : (4096 : Nat) ≤ sizeLine := by decide
    omega
  have hp2 : s1.heap.objs.size ≤ p := Nat.le_trans (Nat.le_of_lt (SetR.lt hS)) hp
  have k2 : ∀ b u, s1.heap.get? b = some u → s'.heap.get? b = some u := fun b u e => k b u (hk b u (Heap.lt_size e) e)
  have hn : H1 p = none := I1.hok.fresh hp2
  have J : L2.Inv X pins σ (upd H1 p (.lst ((ssetI ns).map V.int))) { s1 with heap := s'.heap, gens := s'.gens, drawn := s'.drawn, toks := s'.toks } :=
    I1.call (ch := []) (Un.laid k2 hp2 hn) (I1.hok.laid k2 hp2 ⟨hlen, out, c, vals_of_ints hi, hg⟩) (by rw [g]; exact I1.bare) (fun _ z => nomatch z)
  have e : s' = { s1 with heap := s'.heap, gens := s'.gens, drawn := s'.drawn, toks := s'.toks } := by
    cases s'
    cases s1
    cases o
    rfl
  rw [e]
  exact ⟨.ref p, _, J, rfl, q1 p hn⟩
end
section
variable {Γ : Gm} {n : Nat} {N : List Str} {sc : Scope}
theorem snd_sset (F : Γ.Facts) {a : Expr} {p p2 pos pos2 : Pos} {f : Loc → Sto → Option (R D)} (ha : SndE Γ n N sc a f) (s1 : isStar a = false) (hg : isGlb (sc.names.lookup ("sorted" : Str)) = true) (hg2 : isGlb (sc.names.lookup ("set" : Str)) = true) :
    SndE Γ n N sc (.Call (.Name "sorted" p) [.Call (.Name "set" p2) [a] [] pos2] [] pos) (fun ρ S => bnd (bnd (f ρ S) fun d S1 => some (.ok [d] S1)) fun ds S1 => lift2 (biD S1 .sset ds)) := fun E => by
  obtain ⟨t, h1, h2⟩ := ha E
  refine ⟨tSset Γ.K t, fun X gd hx => ?_, ?_⟩
  · have hm : X.mg "sorted" = none := by rw [gd.mg]; exact F.free _ (by decide +kernel)
    have hm2 : X.mg "set" = none := by rw [gd.mg]; exact F.free _ (by decide +kernel)
    have z : PE X (.Call (.Name "sorted" p) [.Call (.Name "set" p2) [a] [] pos2] [] pos) (tSset X.K t) := pe_sset gd.calm (gd.gl hg) hm (gd.gl hg2) hm2 (h1 X gd hx) (star_cons s1)
    rw [gd.K] at z
    exact z
  · intro m H S ρ σ rr Q rel vo hf p
    dsimp only at hf
    cases q : f ρ S with
    | none => rw [q] at hf; cases hf
    | some r1 =>
      rw [q] at hf
      refine h2 m H S ρ σ r1 _ rel vo q ?_
      cases r1 with
      | ex c dv S1 => cases hf; exact p
      | ok d S1 =>
        intro v H1 m1 e1 rel1 hv
        have hf : (biD S1 .sset [d]).map (fun q => R.ok q.1 q.2) = some rr := hf
        obtain ⟨z, g1, g2⟩ := map_some hf
        subst g2
        cases d with
        | ref r =>
          obtain ⟨xs, g3, g4⟩ := bind_some (show (lstAt S1 r).bind (fun xs => (intsOf xs).bind fun is => if is.length < 4000 then some (D.ref S1.length, S1 ++ [.lst ((ssetI is).map .int)]) else none) = some z from g1)
          obtain ⟨is, g5, g6⟩ := bind_some g4
          obtain ⟨g7, g8⟩ := if_some g6
          subst g8
          obtain ⟨a0, ea, hm⟩ := hv
          obtain ⟨vs, g9, g10⟩ := rel1.lst hm (lstAt_some g3)
          have ev := ints_rel g10 g5
          subst ev
          refine ⟨a0, is, ea, SqL.of g9, g7, fun l hl => ?_⟩
          obtain ⟨a1, a2, a3⟩ := new_lst rel1 hl (VRs.ints (ssetI is))
          exact post_ok p (e1.trans a1) a2 a3
        | _ => cases g1
end
end Mi

end
section
set_option Elab.async false
set_option linter.all false
set_option maxRecDepth 100000
set_option maxHeartbeats 2000000
/-! What the check tells: expressions. -/
namespace Mi
open PySem L2 PySem.Spec PyProof.Rows
section
variable {Γ : Gm} {n : Nat} {N : List Str}
theorem bnd_bnd {α β γ : Type} (x : Option (R α)) (f : α → Sto → Option (R β)) (g : β → Sto → Option (R γ)) : bnd (bnd x f) g = bnd x fun a S => bnd (f a S) g := by
  cases x with
  | none => rfl
  | some r => cases r <;> rfl
theorem Sn.one {ev : E → Loc → Sto → Option (R D)} {sc : Scope} {es : List E} {p : Expr} (h : Sn Γ n N sc ev es [p]) : ∃ e, es = [e] ∧ SndE Γ n N sc p (ev e) := by
  cases h with
  | cons h1 h2 h3 =>
    cases h3
    exact ⟨_, rfl, h1⟩
theorem Sn.two {ev : E → Loc → Sto → Option (R D)} {sc : Scope} {es : List E} {p q : Expr} (h : Sn Γ n N sc ev es [p, q]) : ∃ e f, es = [e, f] ∧ SndE Γ n N sc p (ev e) ∧ SndE Γ n N sc q (ev f) := by
  cases h with
  | cons h1 h2 h3 =>
    obtain ⟨f, e1, h4⟩ := h3.one
    subst e1
    exact ⟨_, f, rfl, h1, h4⟩
theorem Sn.same {ev : E → Loc → Sto → Option (R D)} {sc : Scope} : ∀ {es : List E} {ps : List Expr}, Sn Γ n N sc ev es ps → es.length = ps.length
  | _, _, .nil => rfl
  | _, _, .cons _ _ h => by rw [List.length_cons, List.length_cons, h.same]
theorem Sn.ne {ev : E → Loc → Sto → Option (R D)} {sc : Scope} {es : List E} {ps : List Expr} (h : Sn Γ n N sc ev es ps) (hp : ps ≠ []) : es ≠ [] := fun z => by
  subst z
  cases h
  exact hp rfl
theorem nempty {α : Type} {l : List α} (h : l.isEmpty = false) : l ≠ [] := fun z => by subst z; cases h
theorem noIf_all {ps : List Expr} (h : (ps.all fun e => !isIfE e) = true) : ∀ e ∈ ps, isIfE e = false := fun e he => by
  have := List.all_eq_true.mp h e he
  simpa using this
theorem own_snd (N : List Str) (vs : List Nat) : ((vs.map fun i => (N.getD i "", i)).map (·.2)) = vs := by
  rw [List.map_map]
  exact List.map_id'' (fun _ => rfl) vs
theorem bi_plain (F : Γ.Facts) {sc : Scope} {b : Bi} {x : Str} {ps : List Expr} {p pos : Pos} {g : Loc → Sto → Option (R (List D))} (hb : (biV b).map (·.1) = some x) (hg : isGlb (sc.names.lookup x) = true) (h0 : ps ≠ []) (hs : ∀ e ∈ ps, isStar e = false) (ha : SndA Γ n N sc ps g) :
    SndE Γ n N sc (.Call (.Name x p) ps [] pos) (fun ρ S => bnd (g ρ S) fun ds S1 => lift2 (biD S1 b ds)) := by
  obtain ⟨⟨y, v⟩, h1, h2⟩ := map_eq hb
  have h2 : y = x := h2
  subst h2
  exact snd_bi F h1 hg h0 hs ha
variable (F : Γ.Facts) (C : Γ.Calls n) (hN : N.Nodup)
include F C hN
set_option maxHeartbeats 4000000 in
mutual
theorem sndE : ∀ (e : E) (sc : Scope) (pe : Expr), chkE N Γ.Gn Γ.T e sc pe = true → Snd2 Γ n N sc pe (evE Γ.G (Γ.cal n) e)
  | .var i, sc, pe, h => by
    simp only [chkE] at h
    split at h
    · simp only [Bool.and_eq_true, decide_eq_true_eq] at h
      exact Snd2.of (snd_var h.1.1 h.1.2 h.2) rfl fun ρ S => by rw [evE] <;> rfl
    · cases h
  | .lit d, sc, pe, h => by
    simp only [chkE] at h
    split at h
    · split at h
      · have h := of_decide_eq_true h
        subst h
        exact Snd2.of snd_int rfl fun ρ S => by rw [evE] <;> rfl
      · have h := eq_of_beq h
        subst h
        exact Snd2.of snd_bl rfl fun ρ S => by rw [evE] <;> rfl
      · exact Snd2.of snd_non rfl fun ρ S => by rw [evE] <;> rfl
      · have h := of_decide_eq_true h
        subst h
        exact Snd2.of snd_str rfl fun ρ S => by rw [evE] <;> rfl
      · cases h
    · cases h
  | .glb k, sc, pe, h => by
    simp only [chkE] at h
    split at h
    · simp only [Bool.and_eq_true, decide_eq_true_eq] at h
      obtain ⟨⟨h1, h2⟩, h3⟩ := h
      obtain ⟨⟨y, d⟩, e1, e2⟩ := map_eq h1
      have e2 : y = _ := e2
      subst e2
      exact Snd2.of (snd_glb F e1 h2 h3) rfl fun ρ S => by rw [evE] <;> rfl
    · cases h
  | .tup es, sc, pe, h => by
    simp only [chkE] at h
    split at h
    · simp only [Bool.and_eq_true] at h
      exact Snd2.of (snd_tup ((sndEs es sc _ h.2).args (noStar_all h.1))) rfl fun ρ S => by rw [evE] <;> rfl
    · cases h
  | .lst es, sc, pe, h => by
    simp only [chkE] at h
    split at h
    · simp only [Bool.and_eq_true] at h
      exact Snd2.of (snd_lst ((sndEs es sc _ h.2).args (noStar_all h.1))) rfl fun ρ S => by rw [evE] <;> rfl
    · cases h
  | .dic ks es, sc, pe, h => by
    simp only [chkE] at h
    split at h
    · rename_i dks ps pos
      simp only [Bool.and_eq_true] at h
      obtain ⟨h1, h2⟩ := h
      have hs := sndEs es sc ps h2
      split at h1
      · have e : ps = [] := List.isEmpty_iff.mp h1
        subst e
        cases hs
        exact Snd2.of snd_dic0 rfl fun ρ S => by rw [evE, evEs]
      · simp only [Bool.and_eq_true, decide_eq_true_eq, beq_iff_eq] at h1
        obtain ⟨e1, e2⟩ := h1
        subst e1
        obtain ⟨a, rfl⟩ := List.length_eq_one_iff.mp e2
        obtain ⟨e, e3, h3⟩ := hs.one
        subst e3
        exact Snd2.of (snd_dic1 h3) rfl fun ρ S => by simp only [evE, evEs, bnd_ok]
      · cases h1
    · cases h
  | .op o a b, sc, pe, h => by
    simp only [chkE] at h
    split at h
    · simp only [Bool.and_eq_true, decide_eq_true_eq] at h
      obtain ⟨⟨h1, h2⟩, h3⟩ := h
      have e := opN_o h1
      subst e
      exact Snd2.of (snd_op (sndE a sc _ h2).1 (sndE b sc _ h3).1) rfl fun ρ S => by rw [evE] <;> rfl
    · cases h
  | .neg a, sc, pe, h => by
    simp only [chkE] at h
    split at h
    · exact Snd2.of (snd_neg (sndE a sc _ h).1) rfl fun ρ S => by rw [evE] <;> rfl
    · cases h
  | .cmp c a b, sc, pe, h => by
    simp only [chkE] at h
    split at h
    · simp only [Bool.and_eq_true, decide_eq_true_eq, Bool.not_eq_true'] at h
      obtain ⟨⟨⟨h1, h2⟩, h3⟩, h4⟩ := h
      have e := cmN_o h1
      subst e
      obtain ⟨q1, q2⟩ := snd_cmp F (c := c) (sndE a sc _ h3).1 (sndE b sc _ h4).1 h2
      exact ⟨q1.congr fun ρ S => by rw [evE] <;> rfl, fun _ => q2.congr fun ρ S => by rw [evE] <;> rfl⟩
    · cases h
  | .chain c1 c2 a b c, sc, pe, h => by
    simp only [chkE] at h
    split at h
    · simp only [Bool.and_eq_true, decide_eq_true_eq, Bool.not_eq_true'] at h
      obtain ⟨⟨⟨⟨⟨h1, h2⟩, h3⟩, h4⟩, h5⟩, h6⟩ := h
      have e := cmN_o h1
      have e' := cmN_o h2
      subst e e'
      obtain ⟨q1, q2⟩ := snd_chain F (c1 := c1) (c2 := c2) (sndE a sc _ h4).1 (sndE b sc _ h5).1 (sndE c sc _ h6).1 h3
      exact ⟨q1.congr fun ρ S => by rw [evE] <;> rfl, fun _ => q2.congr fun ρ S => by rw [evE] <;> rfl⟩
    · cases h
  | .and es, sc, pe, h => by
    simp only [chkE] at h
    split at h
    · rename_i ps pos
      simp only [Bool.and_eq_true, Bool.not_eq_true'] at h
      obtain ⟨⟨h1, h2⟩, h3⟩ := h
      have hs := sndEs es sc ps h3
      obtain ⟨q1, q2⟩ := snd_and (pos := pos) hs (hs.ne (nempty h1)) (noIf_all h2)
      exact ⟨q1.congr fun ρ S => by rw [evE] <;> rfl, fun _ => q2.test.congr fun ρ S => by rw [evE] <;> rfl⟩
    · cases h
  | .or es, sc, pe, h => by
    simp only [chkE] at h
    split at h
    · rename_i ps pos
      simp only [Bool.and_eq_true, Bool.not_eq_true'] at h
      obtain ⟨⟨h1, h2⟩, h3⟩ := h
      have hs := sndEs es sc ps h3
      obtain ⟨q1, q2⟩ := snd_or (pos := pos) hs (hs.ne (nempty h1)) (noIf_all h2)
      exact ⟨q1.congr fun ρ S => by rw [evE] <;> rfl, fun _ => q2.test.congr fun ρ S => by rw [evE] <;> rfl⟩
    · cases h
  | .not a, sc, pe, h => by
    simp only [chkE] at h
    split at h
    · simp only [Bool.and_eq_true, Bool.not_eq_true'] at h
      have q := sndE a sc _ h.2
      obtain ⟨q1, q2⟩ := snd_not q.1 (q.2 h.1)
      exact ⟨q1.congr fun ρ S => by rw [evE] <;> rfl, fun _ => q2.congr fun ρ S => by rw [evE] <;> rfl⟩
    · cases h
  | .ite c a b, sc, pe, h => by
    simp only [chkE] at h
    split at h
    · simp only [Bool.and_eq_true, Bool.not_eq_true'] at h
      obtain ⟨⟨⟨h1, h2⟩, h3⟩, h4⟩ := h
      exact ⟨(snd_ite ((sndE c sc _ h2).2 h1) (sndE a sc _ h3).1 (sndE b sc _ h4).1).congr fun ρ S => by rw [evE] <;> rfl, fun z => nomatch z⟩
    · cases h
  | .ix a b, sc, pe, h => by
    simp only [chkE] at h
    split at h
    · simp only [Bool.and_eq_true, Bool.not_eq_true'] at h
      obtain ⟨⟨h1, h2⟩, h3⟩ := h
      exact Snd2.of (snd_ix (sndE a sc _ h2).1 (sndE b sc _ h3).1 h1) rfl fun ρ S => by rw [evE] <;> rfl
    · cases h
  | .slc a lo hi, sc, pe, h => by
    simp only [chkE] at h
    split at h
    · simp only [Bool.and_eq_true] at h
      obtain ⟨⟨h1, h2⟩, h3⟩ := h
      exact Snd2.of (snd_slc (sndE a sc _ h1).1 (sndO lo sc _ h2) (sndO hi sc _ h3)) rfl fun ρ S => by rw [evE] <;> rfl
    · cases h
  | .rev a, sc, pe, h => by
    simp only [chkE] at h
    split at h
    · rename_i a' st p3 pos
      simp only [Bool.and_eq_true] at h
      obtain ⟨h1, h2⟩ := h
      have hm : ∃ k p1 p2, st = .UnaryOp .USub (.Constant (.int 1) k p1) p2 := by
        unfold isM1 at h1
        split at h1
        · rename_i i k p1 p2
          have e := of_decide_eq_true h1
          subst e
          exact ⟨k, p1, p2, rfl⟩
        · cases h1
      obtain ⟨k, p1, p2, rfl⟩ := hm
      exact Snd2.of (snd_rev (sndE a sc _ h2).1) rfl fun ρ S => by rw [evE] <;> rfl
    · cases h
  | .call f es, sc, pe, h => by
    simp only [chkE] at h
    split at h
    · rename_i x p ps pos
      simp only [Bool.and_eq_true, decide_eq_true_eq, Bool.not_eq_true'] at h
      obtain ⟨⟨⟨⟨⟨h1, h2⟩, h3⟩, h4⟩, h5⟩, h6⟩ := h
      obtain ⟨Fd, e1, e2⟩ := map_eq h1
      have hs := sndEs es sc ps h6
      exact Snd2.of (snd_call C e1 e2 h2 h3 (nempty h4) (noStar_all h5) (hs.args (noStar_all h5))) rfl fun ρ S => by rw [evE] <;> rfl
    · cases h
  | .bi b es, sc, pe, h => by
    simp only [chkE] at h
    split at h
    · rename_i x p ps pos
      simp only [Bool.and_eq_true] at h
      obtain ⟨⟨h1, h2⟩, h3⟩ := h
      split at h3
      · split at h3
        · rename_i t _ a y p2
          simp only [Bool.and_eq_true, decide_eq_true_eq] at h3
          obtain ⟨⟨⟨g1, g2⟩, g3⟩, g4⟩ := h3
          subst g1
          obtain ⟨e, e3, h5⟩ := (sndEs es sc _ g4).one
          subst e3
          obtain ⟨k1, k2, k3⟩ := tyNm_ok g3
          exact Snd2.of (snd_isi F h5 (noStar_all h2 _ List.mem_cons_self) k1 k2 k3 h1 g2) rfl fun ρ S => by simp only [evE, evEs, bnd_ok]
        · cases h3
      · split at h3
        · simp only [Bool.and_eq_true, decide_eq_true_eq, Bool.not_eq_true'] at h3
          obtain ⟨⟨⟨⟨⟨g1, g2⟩, g3⟩, g4⟩, g5⟩, g6⟩ := h3
          subst g1 g2
          obtain ⟨e, f, e3, h5, h6⟩ := (sndEs es sc _ g6).two
          subst e3
          exact Snd2.of (snd_rng F h5 h6 g4 g5 h1 g3) rfl fun ρ S => by simp only [evE, evEs, bnd_ok, bnd_bnd]
        · cases h3
      · split at h3
        · simp only [Bool.and_eq_true, decide_eq_true_eq, Bool.not_eq_true'] at h3
          obtain ⟨⟨⟨⟨g1, g2⟩, g3⟩, g4⟩, g5⟩ := h3
          subst g1 g2
          obtain ⟨e, e3, h5⟩ := (sndEs es sc _ g5).one
          subst e3
          exact Snd2.of (snd_rng1 F h5 g4 h1 g3) rfl fun ρ S => by simp only [evE, evEs, bnd_ok]
        · cases h3
      · split at h3
        · simp only [Bool.and_eq_true, decide_eq_true_eq, Bool.not_eq_true'] at h3
          obtain ⟨⟨⟨⟨g1, g2⟩, g3⟩, g4⟩, g5⟩ := h3
          subst g1 g2
          obtain ⟨e, e3, h5⟩ := (sndEs es sc _ g5).one
          subst e3
          exact Snd2.of (snd_sset F h5 g4 h1 g3) rfl fun ρ S => by simp only [evE, evEs, bnd_ok]
        · cases h3
      · simp only [Bool.and_eq_true, decide_eq_true_eq, Bool.not_eq_true'] at h3
        obtain ⟨⟨g1, g2⟩, g3⟩ := h3
        exact Snd2.of (bi_plain F g1 h1 (nempty g2) (noStar_all h2) ((sndEs es sc _ g3).args (noStar_all h2))) rfl fun ρ S => by rw [evE] <;> rfl
    · cases h
  | .ext a b, sc, pe, h => by
    simp only [chkE] at h
    split at h
    · simp only [Bool.and_eq_true, decide_eq_true_eq, Bool.not_eq_true'] at h
      obtain ⟨⟨⟨⟨⟨h1, h2⟩, h3⟩, h4⟩, h5⟩, h6⟩ := h
      subst h1
      exact Snd2.of (snd_ext (sndE a sc _ h5).1 (sndE b sc _ h6).1 h2 h3 h4) rfl fun ρ S => by rw [evE] <;> rfl
    · cases h
  | .app a b, sc, pe, h => by
    simp only [chkE] at h
    split at h
    · simp only [Bool.and_eq_true, decide_eq_true_eq, Bool.not_eq_true'] at h
      obtain ⟨⟨⟨⟨⟨h1, h2⟩, h3⟩, h4⟩, h5⟩, h6⟩ := h
      subst h1
      exact Snd2.of (snd_app (sndE a sc _ h5).1 (sndE b sc _ h6).1 h2 h3 h4) rfl fun ρ S => by rw [evE] <;> rfl
    · cases h
  | .lc vs t k its cs elt, sc, pe, h => by
    simp only [chkE] at h
    split at h
    · rename_i elt' tg iter ifs asy scope pos
      simp only [Bool.and_eq_true, decide_eq_true_eq, Bool.not_eq_true'] at h
      obtain ⟨⟨⟨⟨⟨⟨⟨h0, h1⟩, h2⟩, h3⟩, h4⟩, h5⟩, h6⟩, h7⟩ := h
      subst h0
      split at h5
      · rename_i ps hk
        have ok : LcOk Γ n N sc elt' iter tg t ifs scope (vs.map fun i => (N.getD i "", i)) _ _ _ := ⟨hN, snd_it F hk (sndEs its sc ps h5), sndTs cs scope ifs h6, (sndE elt scope _ h7).1, blkOk_by h1, h2, fun i hi => by rw [own_snd]; exact of_decide_eq_true (List.all_eq_true.mp h3 i hi), h4⟩
        refine Snd2.of (snd_lc ok) rfl fun ρ S => ?_
        rw [own_snd]
        unfold lcF
        rw [evE]
        dsimp only
        cases q : evEs Γ.G (Γ.cal n) its ρ S with
        | none => rfl
        | some r =>
          cases r with
          | ex c v S1 => rfl
          | ok ds S1 =>
            simp only [bnd_ok]
            cases q2 : itD S1 k ds with
            | none => rfl
            | some w => rfl
      · cases h5
    · cases h
theorem sndEs : ∀ (es : List E) (sc : Scope) (ps : List Expr), chkEs N Γ.Gn Γ.T es sc ps = true → Sn Γ n N sc (evE Γ.G (Γ.cal n)) es ps
  | [], sc, ps, h => by
    simp only [chkEs] at h
    have e : ps = [] := List.isEmpty_iff.mp h
    subst e
    exact .nil
  | e :: es, sc, ps, h => by
    simp only [chkEs] at h
    split at h
    · cases h
    · simp only [Bool.and_eq_true] at h
      have q := sndE e sc _ h.1
      exact .cons q.1 q.2 (sndEs es sc _ h.2)
theorem sndTs : ∀ (cs : List E) (sc : Scope) (ifs : List Expr), chkTs N Γ.Gn Γ.T cs sc ifs = true → SndTs Γ n N sc ifs (fun ρ S => evTs Γ.G (Γ.cal n) cs ρ S)
  | [], sc, ifs, h => by
    simp only [chkTs] at h
    have e : ifs = [] := List.isEmpty_iff.mp h
    subst e
    intro E
    obtain ⟨t, h1, h2⟩ := snd_tsnil (Γ := Γ) (n := n) (N := N) (sc := sc) E
    exact ⟨t, h1, ref_congr h2 fun ρ S => by rw [evTs]⟩
  | e :: es, sc, ifs, h => by
    simp only [chkTs] at h
    split at h
    · simp only [Bool.and_eq_true, Bool.not_eq_true'] at h
      obtain ⟨⟨h1, h2⟩, h3⟩ := h
      have e2 : es = [] := List.isEmpty_iff.mp h2
      subst e2
      have q := (sndE e sc _ h3).2 h1
      intro E
      obtain ⟨t, g1, g2⟩ := snd_tsone q E
      refine ⟨t, g1, ref_congr g2 fun ρ S => ?_⟩
      simp only [evTs]
      cases tst (evE Γ.G (Γ.cal n) e ρ S) with
      | none => rfl
      | some r =>
        cases r with
        | ex c v S1 => rfl
        | ok b S1 => cases b <;> rfl
    · cases h
theorem sndO : ∀ (lo : Option E) (sc : Scope) (po : Option Expr), chkO N Γ.Gn Γ.T lo sc po = true → SndO Γ n N sc po (fun ρ S => evO Γ.G (Γ.cal n) lo ρ S)
  | none, sc, po, h => by
    simp only [chkO] at h
    cases po with
    | none =>
      intro E
      obtain ⟨t, h1, h2⟩ := snd_onone (Γ := Γ) (n := n) (N := N) (sc := sc) E
      exact ⟨t, h1, ref_congr h2 fun ρ S => by rw [evO] <;> rfl⟩
    | some _ => cases h
  | some e, sc, po, h => by
    simp only [chkO] at h
    split at h
    · intro E
      obtain ⟨t, h1, h2⟩ := snd_osome (sndE e sc _ h).1 E
      refine ⟨t, h1, ref_congr h2 fun ρ S => by rw [evO] <;> rfl⟩
    · cases h
end
end
end Mi

end
section
set_option Elab.async false
set_option linter.all false
set_option maxRecDepth 100000
set_option maxHeartbeats 2000000
/-! What the check tells: statements, defs, the calls. -/
namespace Mi
open PySem L2 PySem.Spec PyProof.Rows
/-- a comprehension that goes straight into a local of the same line -/
def swA (sc : Scope) (x : Str) (px : Pos) : Expr → Bool
  | .ListComp _ _ _ p => (sc.names.lookup x == some .local) && (px.line == p.line)
  | _ => false
def swAok (sc : Scope) (x : Str) : Expr → Bool
  | .ListComp _ _ scope _ => (match sc.kind with | .function => true | _ => false) && !(scope.names.any fun (n, k) => n == x && (k == .local || k == .cell))
  | _ => false
def isLC : Expr → Bool
  | .ListComp _ _ _ _ => true
  | _ => false
/-- a pair of locals that is stored without a tuple -/
def parOk (N : List Str) (sc : Scope) (t : Tg) (es : List Expr) (pe : Expr) : Bool := match t, es, pe with
  | .tup [i, j], [.Name x px, .Name y py], .Tuple [a, b] _ _ => ownSlot N sc x i && ownSlot N sc y j && !(i == j) && (match sc.kind with | .function => true | _ => false) && (sc.names.lookup x == some .local) && (sc.names.lookup y == some .local) &&
      (py.line == px.line) && !(y == x) && !isStar a && !isStar b && !([a, b].all (foldedForSure 8)) && !([a, b].all (constantsAlone 8))
  | _, _, _ => false
section
variable (N : List Str) (Gn : List (Str × D)) (T : List Fd)
mutual
def chkS : Sm → Scope → Stmt → Bool
  | .asg t e, sc, st => match st with
    | .Assign [tg] pe pos => chkE N Gn T e sc pe && (match tg with
      | .Name x px => (match t with | .one i => ownSlot N sc x i | _ => false) && (if swA sc x px pe = true then swAok sc x pe else (isLC pe || !isComp pe))
      | .Tuple es _ _ => (match t with | .tup _ => true | _ => false) && chkTg N sc tg t && (!isTupE pe || es.any (fun y => !(sc.names.lookup (nmOf y) == some .local)) || (parOk N sc t es pe && (match e with | .tup _ => true | _ => false)))
      | _ => false)
    | _ => false
  | .setIx o i e, sc, st => match st with
    | .Assign [.Subscript a b _] pe pos => !isSlcE b && !isComp pe && chkE N Gn T e sc pe && chkE N Gn T o sc a && chkE N Gn T i sc b
    | _ => false
  | .expr e, sc, st => match st with
    | .Expr pe _ => !isComp pe && chkE N Gn T e sc pe
    | _ => false
  | .ret e, sc, st => match st with
    | .Return (some pe) _ => chkE N Gn T e sc pe
    | _ => false
  | .ite c a b, sc, st => match st with
    | .If c' a' b' _ => !isIfE c' && chkE N Gn T c sc c' && chkSs a sc a' && chkSs b sc b'
    | _ => false
  | .for_ t k its body, sc, st => match st with
    | .For tg it b [] _ => chkTg N sc tg t && !isSetE it && (match itArgs sc k it with
        | some ps => chkEs N Gn T its sc ps
        | none => false) && chkSs body sc b
    | _ => false
  | .whl c body, sc, st => match st with
    | .While c' b [] _ => !isIfE c' && chkE N Gn T c sc c' && chkSs body sc b
    | _ => false
  | .never, _, _ => true
def chkSs : List Sm → Scope → List Stmt → Bool
  | [], sc, sts => sts.isEmpty
  | s :: ss, sc, sts => match sts with
    | [] => false
    | st :: sts => chkS s sc st && chkSs ss sc sts
end
end
section
variable {Γ : Gm} {n : Nat} {N : List Str}
theorem SndS.congr {sc : Scope} {st : Stmt} {f g : Loc → Sto → Option O} (h : SndS Γ n N sc st f) (e : ∀ ρ S, g ρ S = f ρ S) : SndS Γ n N sc st g := by
  have : g = f := by funext ρ S; exact e ρ S
  rw [this]; exact h
theorem SndSs.congr {sc : Scope} {st : List Stmt} {f g : Loc → Sto → Option O} (h : SndSs Γ n N sc st f) (e : ∀ ρ S, g ρ S = f ρ S) : SndSs Γ n N sc st g := by
  have : g = f := by funext ρ S; exact e ρ S
  rw [this]; exact h
variable (F : Γ.Facts) (C : Γ.Calls n) (hN : N.Nodup)
include F C hN
theorem lcOk_of {e : E} {sc : Scope} {elt' : Expr} {gs : List Comprehension} {scope : Scope} {pos : Pos} (h : chkE N Γ.Gn Γ.T e sc (.ListComp elt' gs scope pos) = true) :
    ∃ tg iter ifs t own fi fc fe, gs = [⟨tg, iter, ifs, 0⟩] ∧ LcOk Γ n N sc elt' iter tg t ifs scope own fi fc fe ∧ ∀ ρ S, evE Γ.G (Γ.cal n) e ρ S = lcF (own.map (·.2)) t fi fc fe ρ S := by
  cases e with
  | lc vs t k its cs elt =>
    simp only [chkE] at h
    split at h
    · rename_i elt2 tg iter ifs asy scope2 pos2 heq
      cases heq
      simp only [Bool.and_eq_true, decide_eq_true_eq, Bool.not_eq_true'] at h
      obtain ⟨⟨⟨⟨⟨⟨⟨h0, h1⟩, h2⟩, h3⟩, h4⟩, h5⟩, h6⟩, h7⟩ := h
      subst h0
      split at h5
      · rename_i ps hk
        refine ⟨tg, iter, ifs, t, vs.map fun i => (N.getD i "", i), _, _, _, rfl, ⟨hN, snd_it F hk (sndEs F C hN its sc ps h5), sndTs F C hN cs scope ifs h6, (sndE F C hN elt scope _ h7).1, blkOk_by h1, h2, fun i hi => by rw [own_snd]; exact of_decide_eq_true (List.all_eq_true.mp h3 i hi), h4⟩, fun ρ S => ?_⟩
        rw [own_snd]
        unfold lcF
        rw [evE]
        dsimp only
        cases q : evEs Γ.G (Γ.cal n) its ρ S with
        | none => rfl
        | some r =>
          cases r with
          | ex c v S1 => rfl
          | ok ds S1 =>
            simp only [bnd_ok]
            cases q2 : itD S1 k ds with
            | none => rfl
            | some w => rfl
      · cases h5
    · cases h
  | lit d => cases d <;> cases h
  | dic ks es => cases h
  | _ => cases h
theorem sndAsg {t : Tg} {e : E} {sc : Scope} {st : Stmt} (h : chkS N Γ.Gn Γ.T (.asg t e) sc st = true) : SndS Γ n N sc st (fun ρ S => ofE (evE Γ.G (Γ.cal n) e ρ S) fun d S1 => (setT ρ t d).map fun ρ1 => .nx ρ1 S1) := by
  simp only [chkS] at h
  split at h
  · rename_i tg pe pos
    simp only [Bool.and_eq_true] at h
    obtain ⟨h1, h2⟩ := h
    split at h2
    · rename_i x px
      simp only [Bool.and_eq_true] at h2
      obtain ⟨h2, h3⟩ := h2
      split at h2
      · rename_i i
        by_cases hw : swA sc x px pe = true
        · rw [if_pos hw] at h3
          cases pe with
          | ListComp elt gs scope p =>
            obtain ⟨tg, iter, ifs, t, own, fi, fc, fe, e1, ok, ev⟩ := lcOk_of F C hN h1
            subst e1
            have hw : (sc.names.lookup x == some .local && (px.line == p.line)) = true := hw
            have h3 : ((match sc.kind with | .function => true | _ => false) && !(scope.names.any fun (n, k) => n == x && (k == .local || k == .cell))) = true := h3
            simp only [Bool.and_eq_true, Bool.not_eq_true'] at hw h3
            have hk : sc.kind = .function := by
              have := h3.1
              split at this
              · assumption
              · cases this
            refine (snd_setLc ok h2 hk (eq_of_beq hw.1) hw.2 h3.2).congr fun ρ S => ?_
            rw [ev]
          | _ => cases hw
        · rw [if_neg hw] at h3
          refine snd_set hN h2 (sndE F C hN e sc pe h1).1 fun X gd => ?_
          by_cases hl : isLC pe = true
          · cases pe with
            | ListComp elt gs scope p =>
              refine sw_false ?_
              rw [gd.scope]
              exact Bool.eq_false_iff.mpr hw
            | _ => cases hl
          · rw [Bool.eq_false_iff.mpr hl, Bool.false_or, Bool.not_eq_true'] at h3
            exact sw_none h3 _ _ _
      · cases h2
    · rename_i es j p
      simp only [Bool.and_eq_true, Bool.or_eq_true, Bool.not_eq_true'] at h2
      obtain ⟨⟨h2, h3⟩, h4⟩ := h2
      split at h2
      · rename_i is
        rcases h4 with (h4 | h4) | h4
        · exact snd_tasg hN h3 (sndE F C hN e sc pe h1).1 (.inl h4)
        · obtain ⟨y, hy, hc⟩ := List.any_eq_true.mp h4
          exact snd_tasg hN h3 (sndE F C hN e sc pe h1).1 (.inr ⟨y, hy, by simpa using hc⟩)
        · obtain ⟨h4, h5⟩ := h4
          split at h5
          · rename_i es'
            unfold parOk at h4
            split at h4
            · rename_i t0 is0 pe0 i j' x px y py a b k2 p2 q1
              simp only [Bool.and_eq_true, Bool.not_eq_true'] at h4
              obtain ⟨⟨⟨⟨⟨⟨⟨⟨⟨⟨⟨g1, g2⟩, g3⟩, g4⟩, g5⟩, g6⟩, g7⟩, g8⟩, g9⟩, g10⟩, g11⟩, g12⟩ := h4
              cases q1
              simp only [chkE, Bool.and_eq_true] at h1
              have hk : sc.kind = .function := by
                split at g4
                · assumption
                · cases g4
              refine (snd_par hN g1 g2 (by simpa using g3) hk (eq_of_beq g5) (eq_of_beq g6) g7 g8 g9 g10 g11 g12 ((sndEs F C hN es' sc _ h1.2).args (noStar_all h1.1))).congr fun ρ S => ?_
              rw [evE]
            · cases h4
          · cases h5
      · cases h2
    · cases h2
  · cases h
mutual
theorem sndS : ∀ (s : Sm) (sc : Scope) (st : Stmt), chkS N Γ.Gn Γ.T s sc st = true → SndS Γ n N sc st (fun ρ S => exS Γ.G Γ.W (Γ.cal n) s ρ S)
  | .asg t e, sc, st, h => (sndAsg F C hN h).congr fun ρ S => by rw [exS]
  | .setIx o i e, sc, st, h => by
    simp only [chkS] at h
    split at h
    · simp only [Bool.and_eq_true, Bool.not_eq_true'] at h
      obtain ⟨⟨⟨⟨h1, h2⟩, h3⟩, h4⟩, h5⟩ := h
      exact (snd_setIx (sndE F C hN o sc _ h4).1 (sndE F C hN i sc _ h5).1 (sndE F C hN e sc _ h3).1 h1 h2).congr fun ρ S => by rw [exS] <;> rfl
    · cases h
  | .expr e, sc, st, h => by
    simp only [chkS] at h
    split at h
    · simp only [Bool.and_eq_true, Bool.not_eq_true'] at h
      exact (snd_expr (sndE F C hN e sc _ h.2).1 h.1).congr fun ρ S => by rw [exS]
    · cases h
  | .ret e, sc, st, h => by
    simp only [chkS] at h
    split at h
    · exact (snd_ret (sndE F C hN e sc _ h).1).congr fun ρ S => by rw [exS]
    · cases h
  | .ite c a b, sc, st, h => by
    simp only [chkS] at h
    split at h
    · simp only [Bool.and_eq_true, Bool.not_eq_true'] at h
      obtain ⟨⟨⟨h1, h2⟩, h3⟩, h4⟩ := h
      exact (snd_if ((sndE F C hN c sc _ h2).2 h1) (sndSs a sc _ h3) (sndSs b sc _ h4)).congr fun ρ S => by rw [exS] <;> rfl
    · cases h
  | .for_ t k its body, sc, st, h => by
    simp only [chkS] at h
    split at h
    · rename_i tg it b pos
      simp only [Bool.and_eq_true, Bool.not_eq_true'] at h
      obtain ⟨⟨⟨h1, h2⟩, h3⟩, h4⟩ := h
      split at h3
      · rename_i ps hk
        refine (snd_for hN (snd_it F hk (sndEs F C hN its sc ps h3)) h1 (sndSs body sc b h4) h2).congr fun ρ S => ?_
        rw [exS]
        cases q : evEs Γ.G (Γ.cal n) its ρ S with
        | none => rfl
        | some r =>
          cases r with
          | ex c v S1 => rfl
          | ok ds S1 =>
            simp only [bnd_ok]
            cases q2 : itD S1 k ds with
            | none => rfl
            | some w => rfl
      · cases h3
    · cases h
  | .whl c body, sc, st, h => by
    simp only [chkS] at h
    split at h
    · simp only [Bool.and_eq_true, Bool.not_eq_true'] at h
      obtain ⟨⟨h1, h2⟩, h3⟩ := h
      exact (snd_whl ((sndE F C hN c sc _ h2).2 h1) (sndSs body sc _ h3)).congr fun ρ S => by rw [exS]
    · cases h
  | .never, sc, st, h => snd_never.congr fun ρ S => by rw [exS]
theorem sndSs : ∀ (ss : List Sm) (sc : Scope) (sts : List Stmt), chkSs N Γ.Gn Γ.T ss sc sts = true → SndSs Γ n N sc sts (fun ρ S => exSs Γ.G Γ.W (Γ.cal n) ss ρ S)
  | [], sc, sts, h => by
    simp only [chkSs] at h
    have e : sts = [] := List.isEmpty_iff.mp h
    subst e
    exact snd_snil.congr fun ρ S => by rw [exSs]
  | s :: ss, sc, sts, h => by
    simp only [chkSs] at h
    split at h
    · cases h
    · simp only [Bool.and_eq_true] at h
      exact (snd_scons (sndS s sc _ h.1) (sndSs ss sc _ h.2)).congr fun ρ S => by rw [exSs] <;> rfl
end
end
/-! ### defs -/
/-- a def's text: its slots' names, its parameters, its scope, its body -/
structure FnC where
  N : List Str
  ps : List Str
  sc : Scope
  body : List Stmt
def fscC (N ps : List Str) (sc : Scope) : Bool := (match sc.kind with | .function => true | _ => false) && !sc.isCoroutine && !sc.isGenerator && decide N.Nodup && decide (N.take ps.length = ps) && ps.all (fun x => isOwn (sc.names.lookup x)) && sc.names.all (fun y => match y.2 with | .free => false | _ => true)
def chkFn (Gn : List (Str × D)) (T : List Fd) (c : FnC) (f : Fd) : Bool := fscC c.N c.ps c.sc && (f.np == c.ps.length) && (f.ns == c.N.length) && chkSs c.N Gn T f.body c.sc c.body
theorem fscC_ok {N ps : List Str} {sc : Scope} (h : fscC N ps sc = true) : FnScope N ps sc := by
  unfold fscC at h
  simp only [Bool.and_eq_true, Bool.not_eq_true', decide_eq_true_eq, List.all_eq_true] at h
  obtain ⟨⟨⟨⟨⟨⟨h1, h2⟩, h3⟩, h4⟩, h5⟩, h6⟩, h7⟩ := h
  refine ⟨?_, h2, h3, h4, h5, fun x hx => ?_, fun y hy e => ?_⟩
  · split at h1
    · assumption
    · cases h1
  · have q := h6 x hx
    cases z : sc.names.lookup x with
    | none => rw [z] at q; cases q
    | some k =>
      rw [z] at q
      cases k <;> first | exact .inl rfl | exact .inr rfl | cases q
  · have q := h7 y hy
    rw [e] at q
    cases q
/-- where each def lies -/
structure Gm.Lies (Γ : Gm) (f : Fd) (c : FnC) : Prop where
  lie : ∃ a fd nm qual prm, Γ.mg f.name = some (.ref a) ∧ FunD Γ.K nm qual prm c.body c.sc [] [] a fd ∧ Binds Γ.K fd c.ps []
  chk : chkFn Γ.Gn Γ.T c f = true
theorem start_vo {K : PySem.W.Frag} {m : List Addr} {H : Hp} {ds : List D} {vs : List V} {N : List Str} (h : VRs K m H ds vs) : VO K m H (ds.map some ++ List.replicate (N.length - ds.length) none) (L2.start N vs) := by
  have hl := h.length
  refine ⟨by unfold L2.start; simp [hl], fun i d q => ?_⟩
  by_cases hi : i < ds.length
  · rw [List.getElem?_append_left (by simpa using hi), List.getElem?_map] at q
    obtain ⟨d', e1, e2⟩ := map_eq q
    cases e2
    obtain ⟨v, h1, h2⟩ := h.get e1
    refine ⟨v, ?_, h2⟩
    unfold L2.start
    rw [List.getElem?_append_left (by simp [hl]; exact hi), List.getElem?_map, h1]
    rfl
  · rw [List.getElem?_append_right (by simpa using hi)] at q
    have := List.mem_of_getElem? q
    simp at this
theorem def_snd {Γ : Gm} {n : Nat} (F : Γ.Facts) (C : Γ.Calls n) {f : Nat} {Fx : Fd} {c : FnC} (hT : Γ.T[f]? = some Fx) {a : Addr} {fd : FuncData} {nm qual : Str} {prm : Arguments} (hd : FunD Γ.K nm qual prm c.body c.sc [] [] a fd) (hc : chkFn Γ.Gn Γ.T c Fx = true) :
    FnG Γ.P Γ.w Γ.K Γ.mg Γ.base (n + 1) a fd c.ps (Γ.sp (n + 1) f) := by
  unfold chkFn at hc
  simp only [Bool.and_eq_true, beq_iff_eq] at hc
  obtain ⟨⟨⟨h1, h2⟩, h3⟩, h4⟩ := hc
  have S := fscC_ok h1
  have lens : ∀ vs H Q E, Γ.sp (n + 1) f vs H Q E → vs.length = c.ps.length := by
    rintro vs H Q E ⟨m, St, ds, r, rel, hv, hr, _⟩
    unfold Gm.cal at hr
    rw [calF, hT] at hr
    dsimp only at hr
    split at hr
    · rename_i hl
      rw [hv.length, hl, h2]
    · cases hr
  refine fnG_of hd S lens ?_
  rintro cd A out s H vs Q E hg hr ⟨m, St, ds, r, rel, hv, hcal, hp⟩
  obtain ⟨t, g1, g2⟩ := sndSs F C S.nd Fx.body c.sc c.body h4 E
  refine ⟨t, ?_, ?_⟩
  · refine g1 _ ⟨⟨rfl, rfl, rfl, rfl, rfl, rfl, rfl, hr, hg, fun x k h => .inl h, fun x _ => .inl rfl⟩, ?_, rfl⟩ ?_
    · exact PassesOwn.leaving
    · exact passes_call (takes_of (X := cxOf (L2.CX Γ.P Γ.w) Γ.P Γ.w Γ.K Γ.mg Γ.base c.N qual c.sc a cd A out s H E) rfl rfl rfl rfl) fun _ _ _ _ z => z
  · unfold Gm.cal at hcal
    rw [calF, hT] at hcal
    dsimp only at hcal
    obtain ⟨hl, hcal⟩ := if_some' hcal
    cases q : exSs Γ.G Γ.W (calF Γ.G Γ.W Γ.T n) Fx.body (ds.map some ++ List.replicate (Fx.ns - ds.length) none) St with
    | none => rw [q] at hcal; cases hcal
    | some o =>
      rw [q] at hcal
      rw [h3] at q
      refine g2 m H St _ _ o _ rel (start_vo hv) q ?_
      cases o with
      | nx ρ1 S1 =>
        cases hcal
        exact fun σ' H' m' e rel' _ => hp .non H' m' e rel' rfl
      | rt d S1 => cases hcal; exact hp
      | ex k v S1 => cases hcal; exact hp
theorem calls_all {Γ : Gm} (F : Γ.Facts) (h : ∀ (f : Nat) (Fx : Fd), Γ.T[f]? = some Fx → ∃ c, Γ.Lies Fx c) : ∀ n, Γ.Calls n
  | 0 => by
    intro f Fx hT
    obtain ⟨c, ⟨a, fd, nm, qual, prm, l1, l2, l3⟩, hc⟩ := h f Fx hT
    have np : c.ps.length = Fx.np := by
      unfold chkFn at hc
      simp only [Bool.and_eq_true, beq_iff_eq] at hc
      exact hc.1.1.2.symm
    refine ⟨a, fd, c.ps, l1, l2.kp, l3, np, ⟨?_, ?_⟩⟩
    · rintro vs H Q E ⟨m, St, ds, r, rel, hv, hr, _⟩
      cases hr
    · rintro A out s H us vs Q E _ _ _ _ _ ⟨m, St, ds, r, rel, hv, hr, _⟩
      cases hr
  | n + 1 => by
    intro f Fx hT
    obtain ⟨c, ⟨a, fd, nm, qual, prm, l1, l2, l3⟩, hc⟩ := h f Fx hT
    have np : c.ps.length = Fx.np := by
      unfold chkFn at hc
      simp only [Bool.and_eq_true, beq_iff_eq] at hc
      exact hc.1.1.2.symm
    exact ⟨a, fd, c.ps, l1, l2.kp, l3, np, def_snd F (calls_all F h n) hT l2 hc⟩
end Mi

end
section
set_option Elab.async false
set_option linter.all false
set_option maxRecDepth 100000
set_option maxHeartbeats 2000000
/-! A law's end, over the head's facts. -/
namespace Mi
open PySem L2 PySem.Spec PyProof.Rows
/-! ### the Hook: the defs and names, and that the table of modules is a dict -/
def sysB (g : Addr → Option Obj) : Bool := match g sysModules with
  | some o => decide (o.cls = .type "dict")
  | none => false
theorem sysB_ok {h : Heap} (e : sysB h.get? = true) : SysOk h := by
  unfold sysB at e
  split at e
  · rename_i o q
    exact ⟨o, q, of_decide_eq_true e⟩
  · cases e
def obsS (n : Nat) (fa : List He.Fa) (fn : List He.DefD) (g : Addr → Option Obj) : He.AlD × Bool := (He.obsDG n fa fn g, sysB g)
def hookS (n : Nat) (fa : List He.Fa) (fn : List He.DefD) : PySem.W.Hook where
  α := He.AlD × Bool
  obs := fun s => obsS n fa fn s.heap.get?
  val := fun _ => (He.valD fn, true)
  says := fun _ h => SysOk h ∧ ∃ K : PySem.W.Frag, K.In h ∧ He.SaysD fa fn K
  of := fun w s e => ⟨sysB_ok (congrArg Prod.snd e), _, He.frG_in, congrArg Prod.fst e⟩
  keeps := fun _ _ _ ⟨⟨o, e1, e2⟩, K, hK, c⟩ k => ⟨⟨o, k _ _ e1, e2⟩, K, PySem.W.Frag.In.keeps hK k, c⟩
theorem obsS_eq {n : Nat} {fa : List He.Fa} {fn : List He.DefD} {g : Addr → Option Obj} {s : Shared} (h : ∀ a, g a = s.heap.get? a) : obsS n fa fn g = (hookS n fa fn).obs s := by
  have e : g = s.heap.get? := funext h
  rw [e] <;> rfl
/-! ### the text's data -/
def conFa : Str × D → He.Fa
  | (x, .int i) => .int x i
  | (x, .str z) => .str x z
  | (x, _) => .glo x
def conOk : D → Bool
  | .int _ => true
  | .str _ => true
  | _ => false
def faOf (fn : List He.DefD) (Gn : List (Str × D)) : List He.Fa := fn.map (fun d => .glo d.name) ++ freeNames.map .free ++ Gn.map conFa
def chkD (d : He.DefD) : Bool := decide (d.at_ = (d.name, none)) && d.dfl.isEmpty && d.kwd.isEmpty
def chkAll (Gn : List (Str × D)) (T : List Fd) : List He.DefD → List Fd → List (List Str × List Str) → Bool
  | d :: ds, f :: fs, p :: ps => decide (f.name = d.name) && chkD d && chkFn Gn T ⟨p.1, p.2, d.scope, d.body⟩ f && chkAll Gn T ds fs ps
  | [], [], [] => true
  | _, _, _ => false
def OneBinds (d : He.DefD) (ps : List Str) : Prop := ∀ K a fd, FunD K d.name d.qual d.params d.body d.scope [] [] a fd → Binds K fd ps []
def AllBinds : List He.DefD → List (List Str × List Str) → Prop
  | d :: ds, p :: ps => OneBinds d p.2 ∧ AllBinds ds ps
  | _, _ => True
theorem chkAll_at {Gn : List (Str × D)} {T : List Fd} : ∀ {ds : List He.DefD} {fs : List Fd} {ps : List (List Str × List Str)} {i : Nat} {f : Fd}, chkAll Gn T ds fs ps = true → AllBinds ds ps → fs[i]? = some f →
    ∃ (d : He.DefD) (p : List Str × List Str), ds[i]? = some d ∧ ps[i]? = some p ∧ f.name = d.name ∧ chkD d = true ∧ chkFn Gn T ⟨p.1, p.2, d.scope, d.body⟩ f = true ∧ OneBinds d p.2
  | [], [], [], i, f, _, _, h => by simp at h
  | d :: ds, f :: fs, p :: ps, 0, g, hc, hb, h => by
    simp only [chkAll, Bool.and_eq_true, decide_eq_true_eq] at hc
    simp at h
    subst h
    exact ⟨d, p, rfl, rfl, hc.1.1.1, hc.1.1.2, hc.1.2, hb.1⟩
  | d :: ds, f :: fs, p :: ps, i + 1, g, hc, hb, h => by
    simp only [chkAll, Bool.and_eq_true] at hc
    obtain ⟨d', p', h1, h2, h3⟩ := chkAll_at (i := i) hc.2 hb.2 (by simpa using h)
    exact ⟨d', p', by simpa using h1, by simpa using h2, h3⟩
  | [], [], _ :: _, _, _, hc, _, _ => by cases hc
  | [], _ :: _, _, _, _, hc, _, _ => by cases hc
  | _ :: _, [], _, _, _, hc, _, _ => by cases hc
  | _ :: _, _ :: _, [], _, _, hc, _, _ => by cases hc
theorem fact_of {fa : List He.Fa} {fn : List He.DefD} {K : PySem.W.Frag} (c : He.SaysD fa fn K) {f : He.Fa} (h : f ∈ fa) : f.ok K = true := by
  have c1 := (He.ba (show ((fa.all fun f => f.ok K) && fn.all fun d => d.ok K) = true from congrArg (fun z : He.AlD => z.1) c)).1
  exact List.all_eq_true.mp c1 f h
section
variable {l : PySem.W.OpenLaw} {fn : List He.DefD} {Gn : List (Str × D)} {T : List Fd} {NP : List (List Str × List Str)} {W0 k L n : Nat} {x : Str}
/-- a law's walk: the text is the small language's, and that answers True -/
theorem law_end {q : Program} {loose : List Str} {XP : (Str → Option Value) → Heap → Prop} {d : DefRec} {dl : He.DefD} (hcon : (Gn.all fun q => conOk q.2) = true) (hc : chkAll Gn T fn T NP = true) (hb : AllBinds fn NP) (hL : fn[L]? = some dl) (hLn : dl.name = d.name)
    (hlb : ∀ K a fd, FunD K dl.name dl.qual dl.params dl.body dl.scope [] [] a fd → ∀ (s : Shared) (u : Value), BindsTo s fd ⟨[u], []⟩ [(x, u)]) (hps : ∀ p, NP[L]? = some p → p.2 = [x]) (hn : l.most = some n) (hn2 : n ≤ sizeLine) (hdf : d.params.defaults = []) (hr : Room (k + 1) callerA)
    (hlen : fn.length = T.length) (pure_ : ∀ ns : List Int, ns.length ≤ n → ∃ S, calF (Gn.map (·.2)) W0 T (k + 1) L [.frz (ns.map D.int)] [] = some (.ok (.bl true) S)) :
    PySem.W.WalkO q loose XP (hookS 4 (faOf fn Gn) fn).says l.row.toRowW d [] (fun f vs => PySem.call f vs) := by
  refine walk_G (n := n) (k := k + 1) (x := x) hn hn2 hdf hr ?_
  rintro w mg fa h ⟨sy, K, KX, c⟩ G hmg
  -- the facts, over any base
  have facts : ∀ base : Heap, SysOk base → (Gm.mk l.prog w K mg base [] Gn W0 T).Facts := fun base sb => by
    refine ⟨sb, fun i y dd e => ?_, fun y hy => ?_⟩
    · have hm := List.mem_of_getElem? (show Gn[i]? = some (y, dd) from e)
      have ok := List.all_eq_true.mp hcon _ hm
      have fk := fact_of c (f := conFa (y, dd)) (List.mem_append_right _ (List.mem_map_of_mem hm))
      cases dd with
      | int j =>
        obtain ⟨t, z⟩ := He.int_ok KX G fk
        exact ⟨rfl, _, z, t, rfl⟩
      | str zz =>
        obtain ⟨t, z⟩ := He.str_ok KX G fk
        exact ⟨rfl, _, z, t, rfl⟩
      | _ => cases ok
    · exact He.free_ok KX G (fact_of c (f := .free y) (List.mem_append_left _ (List.mem_append_right _ (List.mem_map_of_mem hy))))
  have lies : ∀ base : Heap, ∀ (f : Nat) (Fx : Fd), T[f]? = some Fx → ∃ cc, (Gm.mk l.prog w K mg base [] Gn W0 T).Lies Fx cc ∧ ∀ dd, fn[f]? = some dd → cc.sc = dd.scope ∧ cc.body = dd.body := fun base f Fx hT => by
    obtain ⟨dd, p, e1, e0, e2, e3, e4, e5⟩ := chkAll_at hc hb hT
    unfold chkD at e3
    simp only [Bool.and_eq_true, decide_eq_true_eq, List.isEmpty_iff] at e3
    obtain ⟨⟨a1, a2⟩, a3⟩ := e3
    obtain ⟨fd, FD⟩ := c.def_ f e1
    have z1 : dd.dvs K = [] := by unfold He.DefD.dvs; rw [a2]; rfl
    have z2 : dd.kws K = [] := by unfold He.DefD.kws; rw [a3]; rfl
    rw [z1, z2] at FD
    have gm := He.glo_ok KX G (fact_of c (f := .glo dd.name) (List.mem_append_left _ (List.mem_append_left _ (List.mem_map_of_mem (f := fun d : He.DefD => He.Fa.glo d.name) (List.mem_of_getElem? e1)))))
    have ea : He.fAd K dd.at_ = He.ga K dd.name := by rw [a1]; rfl
    rw [ea] at FD
    exact ⟨⟨p.1, p.2, dd.scope, dd.body⟩, ⟨⟨He.ga K dd.name, fd, dd.name, dd.qual, dd.params, by rw [e2]; exact gm, FD, e5 K _ fd FD⟩, e4⟩, fun d2 z => by rw [e1] at z; cases z; exact ⟨rfl, rfl⟩⟩
  -- the law's own def
  have hLt : L < T.length := by rw [← hlen]; exact (List.getElem?_eq_some_iff.mp hL).1
  have hTL : T[L]? = some T[L] := List.getElem?_eq_getElem hLt
  obtain ⟨dd, p, e1, e0, e2, e3, e4, e5⟩ := chkAll_at hc hb hTL
  rw [hL] at e1
  cases e1
  unfold chkD at e3
  simp only [Bool.and_eq_true, decide_eq_true_eq, List.isEmpty_iff] at e3
  obtain ⟨⟨a1, a2⟩, a3⟩ := e3
  obtain ⟨fd, FD⟩ := c.def_ L hL
  have z1 : dl.dvs K = [] := by unfold He.DefD.dvs; rw [a2]; rfl
  have z2 : dl.kws K = [] := by unfold He.DefD.kws; rw [a3]; rfl
  rw [z1, z2] at FD
  have ea : He.fAd K dl.at_ = He.ga K dl.name := by rw [a1]; rfl
  rw [ea] at FD
  have gm := He.glo_ok KX G (fact_of c (f := .glo dl.name) (List.mem_append_left _ (List.mem_append_left _ (List.mem_map_of_mem (f := fun d : He.DefD => He.Fa.glo d.name) (List.mem_of_getElem? hL)))))
  rw [hLn] at gm
  rw [hmg] at gm
  cases gm
  rw [← hLn] at *
  refine ⟨K, fd, (Gm.mk l.prog w K mg h [] Gn W0 T).sp (k + 1) L, KX, sy, hlb K _ fd FD, fun H a ns hl hz => ?_, fun base sb kb nb => ?_⟩
  · obtain ⟨S, e⟩ := pure_ ns hl
    refine ⟨[], [], [.frz (ns.map D.int)], _, ⟨rfl, fun i j a q => by simp at q, fun i a o q => by simp at q⟩, VRs.cons ⟨a, ns.map V.int, rfl, hz, VRs.ints ns⟩ VRs.nil, e, ?_⟩
    exact fun v H' m' _ _ hv => hv
  · have C : (Gm.mk l.prog w K mg base [] Gn W0 T).Calls k := calls_all (facts base sb) (fun f Fx hT => let ⟨cc, h1, _⟩ := lies base f Fx hT; ⟨cc, h1⟩) k
    have z := def_snd (facts base sb) C hTL FD e4
    have ep := hps p e0
    rw [ep] at z
    exact z
end
end Mi

end
section
set_option Elab.async false
set_option linter.all false
set_option maxRecDepth 100000
set_option maxHeartbeats 1000000
/-! A law's end, over values. -/
namespace Pv
open PySem L2 Mi PySem.Spec PyProof.Rows
def litD : U → D
  | .bl b => .bl b
  | .int i => .int i
  | .str x => .str x
  | _ => .non
def isLit : U → Bool
  | .int _ => true
  | .str _ => true
  | _ => false
theorem litD_rep {u : U} (h : isLit u = true) (π : List Nat) (X : Hid) (S : Sto) : Rep π X S u (litD u) := by
  cases u <;> first | rfl | cases h
def ixOf (l : List Nat) (g : Nat) : Nat := l.findIdx (· == g)
theorem ixOf_get {l : List Nat} {g : Nat} (h : l.contains g = true) : l[ixOf l g]? = some g := by
  unfold ixOf
  have h2 : ∃ x ∈ l, (x == g) = true := ⟨g, List.contains_iff_mem.mp h, by simp⟩
  have hl := List.findIdx_lt_length_of_exists h2
  rw [List.getElem?_eq_getElem hl]
  have := List.findIdx_getElem (w := hl)
  simpa using this
/-- the law's own defs, of the whole text's -/
def mkF (X : Tx) (ids gids : List Nat) (take pot : Fd) : Nat → Fd
  | 0 => take
  | 1 => pot
  | g => match X.T g with
    | some F => ⟨F.name, F.np, F.ns, renSs (ixOf ids) (ixOf gids) F.body⟩
    | none => ⟨"", 0, 0, []⟩
theorem mkF_eq {X : Tx} {ids gids : List Nat} {take pot : Fd} {f : Nat} {F : Fd} (e : X.T (f + 2) = some F) : mkF X ids gids take pot (f + 2) = ⟨F.name, F.np, F.ns, renSs (ixOf ids) (ixOf gids) F.body⟩ := by
  show (match X.T (f + 2) with
    | some F => (⟨F.name, F.np, F.ns, renSs (ixOf ids) (ixOf gids) F.body⟩ : Fd)
    | none => ⟨"", 0, 0, []⟩) = _
  rw [e]
def mkT (X : Tx) (ids gids : List Nat) (take pot : Fd) : List Fd := ids.map (mkF X ids gids take pot)
def chkX (X : Tx) (ids gids : List Nat) : Bool := (ids.all fun g => match g with
  | 0 => true
  | 1 => true
  | g => match X.T g with
    | some F => (linSs ids.contains gids.contains (mutSs F.body) F.body []).isSome
    | none => false) && gids.all fun k => match X.G k with
      | some u => isLit u
      | none => false
theorem tx_ok {X : Tx} {ids gids : List Nat} {take pot : Fd} {G : List D} (hc : chkX X ids gids = true) (hG : G = gids.map fun k => match X.G k with | some u => litD u | none => .non) (h0 : ids.contains 0 = true) (h1 : ids.contains 1 = true)
    (hT : ∀ (n : Nat) (π : List Nat) (S : Sto) (P : Ps) (k : Nat) (u : Int) (s : Pt) (q : Int × Pt) (r f : Nat), (mkT X ids gids take pot)[f]? = some take → PotsAt π S P → P[k]? = some s → π[k]? = some r → X.tk s u = some q → ∃ S', calF G X.W (mkT X ids gids take pot) (n + 1) f [.ref r, .int u] S = some (.ok (.int q.1) S') ∧ Stp π S π S' noZ ∧ PotsAt π S' (P.set k q.2))
    (hP : ∀ (n : Nat) (S : Sto) (is : List Int) (p : Int) (a b c : Int) (f : Nat), (mkT X ids gids take pot)[f]? = some pot → X.pot is p = some (a, b, c) → ∃ S' r, calF G X.W (mkT X ids gids take pot) (n + 1) f [.frz (is.map .int), .int p] S = some (.ok (.ref r) S') ∧ S.length ≤ r ∧ (∀ j, j < S.length → S'[j]? = S[j]?) ∧ S'[r]? = some (.lst [.int a, .int b, .int c])) :
    TxOk X ids.contains gids.contains (ixOf ids) (ixOf gids) (mkT X ids gids take pot) G := by
  unfold chkX at hc
  rw [Bool.and_eq_true] at hc
  have at_ : ∀ g, ids.contains g = true → (mkT X ids gids take pot)[ixOf ids g]? = some (mkF X ids gids take pot g) := fun g hg => by
    unfold mkT
    rw [List.getElem?_map, ixOf_get hg]
    rfl
  refine ⟨fun k u hk e => ?_, fun f F hf e => ?_, fun n π S P k u s q r p e1 e2 e3 => hT n π S P k u s q r _ (at_ 0 h0) p e1 e2 e3, fun n S is p a b c e => hP n S is p a b c _ (at_ 1 h1) e⟩
  · have z := List.all_eq_true.mp hc.2 k (List.contains_iff_mem.mp hk)
    rw [e] at z
    refine ⟨litD u, ?_, litD_rep z⟩
    rw [hG, List.getElem?_map, ixOf_get hk]
    simp only [Option.map_some, e]
  · have z := List.all_eq_true.mp hc.1 (f + 2) (List.contains_iff_mem.mp hf)
    have z : (match X.T (f + 2) with
      | some F => (linSs ids.contains gids.contains (mutSs F.body) F.body []).isSome
      | none => false) = true := z
    rw [e] at z
    obtain ⟨out, z⟩ := Option.isSome_iff_exists.mp z
    exact ⟨_, out, (at_ (f + 2) hf).trans (congrArg some (mkF_eq e)), rfl, rfl, rfl, z⟩
/-- what the law's own def says over values it says over the store -/
theorem law_val {X : Tx} {df dg : Nat → Bool} {rf rg : Nat → Nat} {T : List Fd} {G : List D} (ok : TxOk X df dg rf rg T G) {k g : Nat} {P : Ps} {ns : List Int} (hg : df g = true) (h : calU X k g [.frz (ns.map U.int)] [] = some (.ok (.bl true) P)) : ∃ S, calF G X.W T k (rf g) [.frz (ns.map D.int)] [] = some (.ok (.bl true) S) := by
  have z := calls_sim ok k g _ [] _ hg h [] (fun _ => False) [] [.frz (ns.map D.int)] ⟨fun _ h => h.elim, fun _ h => (by cases h)⟩ ⟨rfl, List.nodup_nil, fun k r a b c e => by simp at e⟩ (Reps.cons ⟨_, rfl, Reps.ints ns⟩ Reps.nil)
  obtain ⟨π', S', d, e, _, _, r⟩ := z
  cases r
  exact ⟨S', e⟩
end Pv

end
section
set_option Elab.async false
set_option linter.all false
set_option maxRecDepth 100000
set_option maxHeartbeats 0
namespace K60
open PySem PySem.Spec PyProof.Rows L2 Mi Pv Pr
def b__law_apart : List Sm := [.ret (.tup [.bi .abs [.op .sub (.op .mul (.ix (.var 1) (.lit (.int 0))) (.ix (.var 0) (.lit (.int 1)))) (.op .mul (.ix (.var 0) (.lit (.int 0))) (.ix (.var 1) (.lit (.int 1))))], .op .mul (.ix (.var 1) (.lit (.int 1))) (.ix (.var 0) (.lit (.int 1)))])]
def f__law_apart : Fd := ⟨"_law_apart", 2, 2, b__law_apart⟩
def b__law_is_farther : List Sm := [.asg (.tup [3, 4]) (.tup [.call 1045 [.var 0, .var 1], .call 1045 [.var 0, .var 2]]), .ret (.cmp .gt (.op .mul (.ix (.var 3) (.lit (.int 0))) (.ix (.var 4) (.lit (.int 1)))) (.op .mul (.ix (.var 4) (.lit (.int 0))) (.ix (.var 3) (.lit (.int 1)))))]
def f__law_is_farther : Fd := ⟨"_law_is_farther", 3, 5, b__law_is_farther⟩
def e__law_right_v52_1 : E := .lc [5] (.one 5) .rng1 [.op .add (.var 2) (.lit (.int 1))] [.cmp .eq (.call 911 [.var 5, .var 4]) (.lit (.int 1))] (.tup [.var 5, .var 4])
def l__law_right_v52_1 : List Sm := [.expr (.ext (.var 3) (e__law_right_v52_1))]
def s__law_right_v52_1 : Sm := .for_ (.one 4) .rng2 [.lit (.int 1), .op .add (.var 2) (.lit (.int 1))] l__law_right_v52_1
def e__law_right_v52_2 : E := .lc [7] (.one 7) .seq [.var 3] [.cmp .le (.op .mul (.ix (.var 7) (.lit (.int 0))) (.ix (.var 1) (.lit (.int 1)))) (.op .mul (.ix (.var 1) (.lit (.int 0))) (.ix (.var 7) (.lit (.int 1))))] (.var 7)
def e__law_right_v52_3 : E := .lc [7] (.one 7) .seq [.var 3] [.cmp .ge (.op .mul (.ix (.var 7) (.lit (.int 0))) (.ix (.var 1) (.lit (.int 1)))) (.op .mul (.ix (.var 1) (.lit (.int 0))) (.ix (.var 7) (.lit (.int 1))))] (.var 7)
def l__law_right_v52_2 : List Sm := [.asg (.one 9) (.ite (.cmp .gt (.op .mul (.ix (.var 7) (.lit (.int 0))) (.ix (.var 9) (.lit (.int 1)))) (.op .mul (.ix (.var 9) (.lit (.int 0))) (.ix (.var 7) (.lit (.int 1))))) (.var 7) (.var 9))]
def s__law_right_v52_2 : Sm := .for_ (.one 7) .seq [.var 6] l__law_right_v52_2
def l__law_right_v52_3 : List Sm := [.asg (.one 10) (.ite (.cmp .lt (.op .mul (.ix (.var 7) (.lit (.int 0))) (.ix (.var 10) (.lit (.int 1)))) (.op .mul (.ix (.var 10) (.lit (.int 0))) (.ix (.var 7) (.lit (.int 1))))) (.var 7) (.var 10))]
def s__law_right_v52_3 : Sm := .for_ (.one 7) .seq [.var 8] l__law_right_v52_3
def e__law_right_v52_4 : E := .lc [7] (.one 7) .seq [.var 3] [.cmp .gt (.ix (.var 7) (.lit (.int 0))) (.lit (.int 0))] (.var 7)
def l__law_right_v52_4 : List Sm := [.asg (.one 12) (.ite (.call 1046 [.var 1, .var 12, .var 7]) (.var 7) (.var 12))]
def s__law_right_v52_4 : Sm := .for_ (.one 7) .seq [.var 11] l__law_right_v52_4
def e__law_right_v52_5 : E := .lc [7] (.one 7) .seq [.var 11] [.not (.call 1046 [.var 1, .var 7, .var 12])] (.var 7)
def e__law_right_v52_6 : E := .lc [7] (.one 7) .seq [.var 13] [] (.bi .repr [.var 7])
def e__law_right_v52_7 : E := .lc [16] (.one 16) .rng1 [.lit (.int 4)] [] (.call 46 [.var 0, .var 11])
def e__law_right_v52_8 : E := .lc [16] (.one 16) .rng1 [.lit (.int 4)] [] (.call 859 [.var 0, .var 14])
def e__law_right_v52_9 : E := .lc [7] (.one 7) .seq [.var 13] [] (.bi .repr [.var 7])
def e__law_right_v52_10 : E := .lc [17] (.one 17) .seq [.var 15] [] (.cmp .eq (.bi .repr [.call 1042 [.var 1, .var 2, .var 17]]) (.bi .repr [.cmp .isIn (.bi .repr [.var 17]) (e__law_right_v52_9)]))
def b__law_right_v52 : List Sm := [.asg (.tup [1, 2]) (.tup [.call 1044 [.var 0], .op .add (.lit (.int 1)) (.call 0 [.var 0, .lit (.int 25)])]), .asg (.one 3) (.lst []), s__law_right_v52_1, .asg (.one 6) (e__law_right_v52_2), .asg (.one 8) (e__law_right_v52_3), .asg (.tup [9, 10]) (.tup [.ix (.var 6) (.lit (.int 0)), .ite (.cmp .ne (.var 8) (.lst [])) (.ix (.var 8) (.lit (.int 0))) (.lit .non)]), s__law_right_v52_2, s__law_right_v52_3, .ite (.or [.cmp .ne (.bi .repr [.call 1038 [.var 1, .var 2]]) (.bi .repr [.tup [.var 9, .var 10]]), .and [.cmp .notN (.var 10) (.lit .non), .cmp .ne (.var 9) (.var 10), .cmp .ne (.op .sub (.op .mul (.ix (.var 10) (.lit (.int 0))) (.ix (.var 9) (.lit (.int 1)))) (.op .mul (.ix (.var 9) (.lit (.int 0))) (.ix (.var 10) (.lit (.int 1))))) (.lit (.int 1))]]) [.ret (.lit (.bl false))] [], .asg (.one 11) (e__law_right_v52_4), .asg (.one 12) (.ix (.var 11) (.lit (.int 0))), s__law_right_v52_4, .asg (.one 13) (e__law_right_v52_5), .asg (.one 14) (.call 1041 [.var 1, .var 2]), .ite (.or [.cmp .notIn (.bi .repr [.var 14]) (e__law_right_v52_6), .cmp .notIn (.var 14) (.tup [.var 9, .var 10])]) [.ret (.lit (.bl false))] [], .asg (.one 15) (.lst [.var 14, .bi .lst [.var 14], .slc (.var 14) none (some (.lit (.int 1))), .op .add (.var 14) (.tup [.lit (.int 0)]), .rev (.var 14), .tup [.op .mul (.lit (.int 2)) (.ix (.var 14) (.lit (.int 0))), .op .mul (.lit (.int 2)) (.ix (.var 14) (.lit (.int 1)))], .var 9, .var 10, .var 1, .call 1043 [.ix (.var 1) (.lit (.int 0)), .ix (.var 1) (.lit (.int 1))], .lit .non, .tup []]), .asg (.one 15) (.op .add (.op .add (.op .add (.var 15) (e__law_right_v52_7)) (e__law_right_v52_8)) (.lst [.call 858 [.var 0]])), .ret (.bi .all [e__law_right_v52_10])]
def f__law_right_v52 : Fd := ⟨"_law_right", 1, 18, b__law_right_v52⟩
def l__law_is_great_right_v2_1 : List Sm := [.asg (.one 6) (.bi .min2 [.var 2, .op .fdiv (.op .mul (.ix (.var 1) (.lit (.int 0))) (.var 5)) (.ix (.var 1) (.lit (.int 1)))]), .ite (.cmp .gt (.op .mul (.var 6) (.ix (.var 3) (.lit (.int 1)))) (.op .mul (.ix (.var 3) (.lit (.int 0))) (.var 5))) [.ret (.lit (.bl false))] []]
def s__law_is_great_right_v2_1 : Sm := .for_ (.one 5) .rng2 [.lit (.int 1), .op .add (.var 2) (.lit (.int 1))] l__law_is_great_right_v2_1
def b__law_is_great_right_v2 : List Sm := [.asg (.tup [1, 2]) (.tup [.call 1044 [.var 0], .op .add (.lit (.int 100)) (.call 0 [.var 0, .lit (.int 101)])]), .asg (.tup [3, 4]) (.call 1038 [.var 1, .var 2]), .ite (.or [.cmp .gt (.op .mul (.ix (.var 3) (.lit (.int 0))) (.ix (.var 1) (.lit (.int 1)))) (.op .mul (.ix (.var 1) (.lit (.int 0))) (.ix (.var 3) (.lit (.int 1)))), .and [.cmp .notN (.var 4) (.lit .non), .cmp .lt (.op .mul (.ix (.var 4) (.lit (.int 0))) (.ix (.var 1) (.lit (.int 1)))) (.op .mul (.ix (.var 1) (.lit (.int 0))) (.ix (.var 4) (.lit (.int 1))))]]) [.ret (.lit (.bl false))] [], s__law_is_great_right_v2_1, .ret (.or [.cmp .isN (.var 4) (.lit .non), .cmp .eq (.var 4) (.var 3), .cmp .eq (.op .sub (.op .mul (.ix (.var 4) (.lit (.int 0))) (.ix (.var 3) (.lit (.int 1)))) (.op .mul (.ix (.var 3) (.lit (.int 0))) (.ix (.var 4) (.lit (.int 1))))) (.lit (.int 1))])]
def f__law_is_great_right_v2 : Fd := ⟨"_law_is_great_right", 1, 7, b__law_is_great_right_v2⟩
def e_law_v60_1 : E := .lc [3] (.one 3) .rng1 [.lit (.int 4)] [] (.call 1047 [.var 2])
def e_law_v60_2 : E := .lc [3] (.one 3) .rng1 [.lit (.int 3)] [] (.call 1048 [.var 2])
def l_law_v60_1 : List Sm := [.asg (.one 2) (.call 1 [.var 0, .var 1]), .ite (.or [.not (.bi .all [e_law_v60_1]), .not (.bi .all [e_law_v60_2])]) [.ret (.lit (.bl false))] []]
def s_law_v60_1 : Sm := .for_ (.one 1) .seq [.call 262 [.var 0, .lit (.int 3)]] l_law_v60_1
def b_law_v60 : List Sm := [s_law_v60_1, .ret (.cmp .eq (.call 1038 [.tup [.lit (.int 355), .lit (.int 113)], .lit (.int 10)]) (.tup [.tup [.lit (.int 3), .lit (.int 1)], .tup [.lit (.int 10), .lit (.int 3)]]))]
def f_law_v60 : Fd := ⟨"law", 1, 4, b_law_v60⟩
def c_law_k60 : Tab := [(1045, f__law_apart), (1046, f__law_is_farther), (1047, f__law_right_v52), (1048, f__law_is_great_right_v2), (1049, f_law_v60)]
theorem at__law_apart {X : Tx} (h : Has X c_law_k60) : X.T 1045 = some f__law_apart := h.at_ (i := 0) rfl
theorem at__law_is_farther {X : Tx} (h : Has X c_law_k60) : X.T 1046 = some f__law_is_farther := h.at_ (i := 1) rfl
theorem at__law_right_v52 {X : Tx} (h : Has X c_law_k60) : X.T 1047 = some f__law_right_v52 := h.at_ (i := 2) rfl
theorem at__law_is_great_right_v2 {X : Tx} (h : Has X c_law_k60) : X.T 1048 = some f__law_is_great_right_v2 := h.at_ (i := 3) rfl
theorem at_law_v60 {X : Tx} (h : Has X c_law_k60) : X.T 1049 = some f_law_v60 := h.at_ (i := 4) rfl
def big : Tab := c_words ++ c_cogs ++ c_chances ++ c_ratios ++ c_lawc ++ c_law_k60
def ids : List Nat := [3, 4, 1021, 1032, 1033, 1034, 1035, 723, 1036, 1037, 1038, 1039, 1040, 1041, 1042, 1, 0, 46, 262, 231, 858, 859, 911, 1043, 1044, 1045, 1046, 1047, 1048, 1049]
def Gn : List (Str × D) := [("MOST_RATIO", .int 1000000), ("MOST_TEETH", .int 200)]
def gids : List Nat := [121, 120]
def GT : List (Nat × U) := [(121, .int 1000000), (120, .int 200)]
def f_take : Fd := ⟨"_law_take", 2, 5, takeB 2147482219 2147482217 2147482207 2147482201 2147482187 73951 1931 7993 263 2305843009213693907 163⟩
def f_pot : Fd := ⟨"_law_pot", 2, 5, pot2 68917 7103 1153 1000289 5623 853⟩
theorem W0_ex : ∃ n : Nat, 10000000 ≤ n := ⟨10000000, Nat.le_refl _⟩
noncomputable def W0 : Nat := Classical.choose W0_ex
theorem W0_ge : 10000000 ≤ W0 := Classical.choose_spec W0_ex
noncomputable def X : Tx := ⟨fun g => big.lookup g, fun k => GT.lookup k, W0, tkB 2147482219 2147482217 2147482207 2147482201 2147482187 73951 1931 7993 263 2305843009213693907 163, potX 68917 7103 1153 (g1 1000289 5623 853)⟩
theorem tk_ok : TkOk X.tk := tkB_ok
/-- the table without what is not reckoned with -/
def Xc : Tx := ⟨fun g => big.lookup g, fun k => GT.lookup k, 0, fun _ _ => none, fun _ _ => none⟩
def T : List Fd := mkT Xc ids gids f_take f_pot
def top (i : Nat) : Stmt := PySem.Challenge.pw_neverrunaway_k60_whole_ratios_told_by_fe.main.body.getD i (.Pass ⟨0, 0, 0, 0⟩)
def d_is_integer : He.DefD := ⟨("is_integer", none), "is_integer", "is_integer", defArgs (top 5), defBody (top 5), defScope (top 5), [], []⟩
def d_is_between : He.DefD := ⟨("is_between", none), "is_between", "is_between", defArgs (top 6), defBody (top 6), defScope (top 6), [], []⟩
def d_common : He.DefD := ⟨("common", none), "common", "common", defArgs (top 8), defBody (top 8), defScope (top 8), [], []⟩
def d_is_ratio : He.DefD := ⟨("is_ratio", none), "is_ratio", "is_ratio", defArgs (top 12), defBody (top 12), defScope (top 12), [], []⟩
def d_check_ratio : He.DefD := ⟨("check_ratio", none), "check_ratio", "check_ratio", defArgs (top 13), defBody (top 13), defScope (top 13), [], []⟩
def d_check_most : He.DefD := ⟨("check_most", none), "check_most", "check_most", defArgs (top 14), defBody (top 14), defScope (top 14), [], []⟩
def d_least : He.DefD := ⟨("least", none), "least", "least", defArgs (top 15), defBody (top 15), defScope (top 15), [], []⟩
def d_is_less : He.DefD := ⟨("is_less", none), "is_less", "is_less", defArgs (top 16), defBody (top 16), defScope (top 16), [], []⟩
def d_below_of : He.DefD := ⟨("below_of", none), "below_of", "below_of", defArgs (top 17), defBody (top 17), defScope (top 17), [], []⟩
def d_above_of : He.DefD := ⟨("above_of", none), "above_of", "above_of", defArgs (top 18), defBody (top 18), defScope (top 18), [], []⟩
def d_neighbours : He.DefD := ⟨("neighbours", none), "neighbours", "neighbours", defArgs (top 19), defBody (top 19), defScope (top 19), [], []⟩
def d_apart : He.DefD := ⟨("apart", none), "apart", "apart", defArgs (top 20), defBody (top 20), defScope (top 20), [], []⟩
def d_near_of : He.DefD := ⟨("near_of", none), "near_of", "near_of", defArgs (top 21), defBody (top 21), defScope (top 21), [], []⟩
def d_near_ratio : He.DefD := ⟨("near_ratio", none), "near_ratio", "near_ratio", defArgs (top 22), defBody (top 22), defScope (top 22), [], []⟩
def d_shows_near : He.DefD := ⟨("shows_near", none), "shows_near", "shows_near", defArgs (top 23), defBody (top 23), defScope (top 23), [], []⟩
def d__law_pot : He.DefD := ⟨("_law_pot", none), "_law_pot", "_law_pot", defArgs (top 25), defBody (top 25), defScope (top 25), [], []⟩
def d__law_take : He.DefD := ⟨("_law_take", none), "_law_take", "_law_take", defArgs (top 26), defBody (top 26), defScope (top 26), [], []⟩
def d__law_of : He.DefD := ⟨("_law_of", none), "_law_of", "_law_of", defArgs (top 27), defBody (top 27), defScope (top 27), [], []⟩
def d__law_cells : He.DefD := ⟨("_law_cells", none), "_law_cells", "_law_cells", defArgs (top 28), defBody (top 28), defScope (top 28), [], []⟩
def d__law_is_int : He.DefD := ⟨("_law_is_int", none), "_law_is_int", "_law_is_int", defArgs (top 29), defBody (top 29), defScope (top 29), [], []⟩
def d__law_odd : He.DefD := ⟨("_law_odd", none), "_law_odd", "_law_odd", defArgs (top 30), defBody (top 30), defScope (top 30), [], []⟩
def d__law_bent : He.DefD := ⟨("_law_bent", none), "_law_bent", "_law_bent", defArgs (top 31), defBody (top 31), defScope (top 31), [], []⟩
def d__law_gcd : He.DefD := ⟨("_law_gcd", none), "_law_gcd", "_law_gcd", defArgs (top 32), defBody (top 32), defScope (top 32), [], []⟩
def d__law_least : He.DefD := ⟨("_law_least", none), "_law_least", "_law_least", defArgs (top 33), defBody (top 33), defScope (top 33), [], []⟩
def d__law_ratio : He.DefD := ⟨("_law_ratio", none), "_law_ratio", "_law_ratio", defArgs (top 34), defBody (top 34), defScope (top 34), [], []⟩
def d__law_apart : He.DefD := ⟨("_law_apart", none), "_law_apart", "_law_apart", defArgs (top 35), defBody (top 35), defScope (top 35), [], []⟩
def d__law_is_farther : He.DefD := ⟨("_law_is_farther", none), "_law_is_farther", "_law_is_farther", defArgs (top 36), defBody (top 36), defScope (top 36), [], []⟩
def d__law_right : He.DefD := ⟨("_law_right", none), "_law_right", "_law_right", defArgs (top 37), defBody (top 37), defScope (top 37), [], []⟩
def d__law_is_great_right : He.DefD := ⟨("_law_is_great_right", none), "_law_is_great_right", "_law_is_great_right", defArgs (top 38), defBody (top 38), defScope (top 38), [], []⟩
def d_law : He.DefD := ⟨("law", none), "law", "law", defArgs (top 39), defBody (top 39), defScope (top 39), [], []⟩
def fn : List He.DefD := [d_is_integer, d_is_between, d_common, d_is_ratio, d_check_ratio, d_check_most, d_least, d_is_less, d_below_of, d_above_of, d_neighbours, d_apart, d_near_of, d_near_ratio, d_shows_near, d__law_pot, d__law_take, d__law_of, d__law_cells, d__law_is_int, d__law_odd, d__law_bent, d__law_gcd, d__law_least, d__law_ratio, d__law_apart, d__law_is_farther, d__law_right, d__law_is_great_right, d_law]
def NP : List (List Str × List Str) := [(["value"], ["value"]),
  (["value", "low", "high"], ["value", "low", "high"]),
  (["one", "other"], ["one", "other"]),
  (["value", "part"], ["value"]),
  (["ratio"], ["ratio"]),
  (["ratio", "most"], ["ratio", "most"]),
  (["top", "low", "divisor"], ["top", "low"]),
  (["one", "other"], ["one", "other"]),
  (["ratio", "most", "best", "low", "here"], ["ratio", "most"]),
  (["ratio", "most", "best", "low", "here"], ["ratio", "most"]),
  (["ratio", "most"], ["ratio", "most"]),
  (["ratio", "one"], ["ratio", "one"]),
  (["ratio", "most", "some", "one", "best"], ["ratio", "most"]),
  (["ratio", "most"], ["ratio", "most"]),
  (["ratio", "most", "value", "part"], ["ratio", "most", "value"]),
  (["script", "place", "cell", "own", "small"], ["script", "place"]),
  (["pot", "upto", "digit", "prime", "blend"], ["pot", "upto"]),
  (["pot", "some"], ["pot", "some"]),
  (["script", "most"], ["script", "most"]),
  (["value", "low", "high"], ["value", "low", "high"]),
  (["pot", "some"], ["pot"]),
  (["pot", "value", "at", "row"], ["pot", "value"]),
  (["one", "other"], ["one", "other"]),
  (["top", "low", "divisor"], ["top", "low"]),
  (["pot", "most"], ["pot"]),
  (["ratio", "one"], ["ratio", "one"]),
  (["ratio", "one", "other", "here", "there"], ["ratio", "one", "other"]),
  (["pot", "ratio", "most", "every", "low", "top", "under", "one", "over", "below", "above", "some", "best", "fine", "told", "values", "lap", "value"], ["pot"]),
  (["pot", "ratio", "most", "below", "above", "low", "top"], ["pot"]),
  (["script", "place", "pot", "lap"], ["script"])]
abbrev R : PySem.W.OpenRow := PySem.W.OpenLaw.row PySem.Challenge.rw_neverrunaway_k60_whole_ratios_told_by_fe
abbrev fa : List He.Fa := faOf fn Gn
abbrev hk : PySem.W.Hook := hookS 4 fa fn
def ob (s : PySem.W.SharedT) : He.AlD × Bool := obsS 4 fa fn (HandSHeadRun.getT s)
theorem ob_eq (s : PySem.W.SharedT) : ob s = hk.obs s.abs := obsS_eq (HandSHeadRun.getT_eq s)
def names0 : List PySem.Str := ["MillError", "BadMost", "BadRatio", "MOST_RATIO", "MOST_TEETH", "is_integer", "is_between", "common", "is_ratio", "check_ratio", "check_most", "least", "is_less", "below_of", "above_of", "neighbours", "apart", "near_of", "near_ratio", "shows_near", "_law_pot", "_law_take", "_law_of", "_law_cells", "_law_is_int"]
def names1 : List PySem.Str := ["_law_odd", "_law_bent", "_law_gcd", "_law_least", "_law_ratio", "_law_apart", "_law_is_farther", "_law_right", "_law_is_great_right"]
def names : List PySem.Str := names0 ++ names1
theorem run (w : World) : HandSHeadRun.RunEq R (PySem.W.view R.prog [39]) hk ob 3000 names w := by
  intro os
  kernel_rfl
theorem chk : chkAll Gn T fn T NP = true := by kernel_rfl
theorem bn_is_integer : OneBinds d_is_integer ["value"] := fun K a fd F => F.bindsN fun _ _ _ _ _ _ us hl => match us, hl with | [_], _ => rfl
theorem bn_is_between : OneBinds d_is_between ["value", "low", "high"] := fun K a fd F => F.bindsN fun _ _ _ _ _ _ us hl => match us, hl with | [_, _, _], _ => rfl
theorem bn_common : OneBinds d_common ["one", "other"] := fun K a fd F => F.bindsN fun _ _ _ _ _ _ us hl => match us, hl with | [_, _], _ => rfl
theorem bn_is_ratio : OneBinds d_is_ratio ["value"] := fun K a fd F => F.bindsN fun _ _ _ _ _ _ us hl => match us, hl with | [_], _ => rfl
theorem bn_check_ratio : OneBinds d_check_ratio ["ratio"] := fun K a fd F => F.bindsN fun _ _ _ _ _ _ us hl => match us, hl with | [_], _ => rfl
theorem bn_check_most : OneBinds d_check_most ["ratio", "most"] := fun K a fd F => F.bindsN fun _ _ _ _ _ _ us hl => match us, hl with | [_, _], _ => rfl
theorem bn_least : OneBinds d_least ["top", "low"] := fun K a fd F => F.bindsN fun _ _ _ _ _ _ us hl => match us, hl with | [_, _], _ => rfl
theorem bn_is_less : OneBinds d_is_less ["one", "other"] := fun K a fd F => F.bindsN fun _ _ _ _ _ _ us hl => match us, hl with | [_, _], _ => rfl
theorem bn_below_of : OneBinds d_below_of ["ratio", "most"] := fun K a fd F => F.bindsN fun _ _ _ _ _ _ us hl => match us, hl with | [_, _], _ => rfl
theorem bn_above_of : OneBinds d_above_of ["ratio", "most"] := fun K a fd F => F.bindsN fun _ _ _ _ _ _ us hl => match us, hl with | [_, _], _ => rfl
theorem bn_neighbours : OneBinds d_neighbours ["ratio", "most"] := fun K a fd F => F.bindsN fun _ _ _ _ _ _ us hl => match us, hl with | [_, _], _ => rfl
theorem bn_apart : OneBinds d_apart ["ratio", "one"] := fun K a fd F => F.bindsN fun _ _ _ _ _ _ us hl => match us, hl with | [_, _], _ => rfl
theorem bn_near_of : OneBinds d_near_of ["ratio", "most"] := fun K a fd F => F.bindsN fun _ _ _ _ _ _ us hl => match us, hl with | [_, _], _ => rfl
theorem bn_near_ratio : OneBinds d_near_ratio ["ratio", "most"] := fun K a fd F => F.bindsN fun _ _ _ _ _ _ us hl => match us, hl with | [_, _], _ => rfl
theorem bn_shows_near : OneBinds d_shows_near ["ratio", "most", "value"] := fun K a fd F => F.bindsN fun _ _ _ _ _ _ us hl => match us, hl with | [_, _, _], _ => rfl
theorem bn__law_pot : OneBinds d__law_pot ["script", "place"] := fun K a fd F => F.bindsN fun _ _ _ _ _ _ us hl => match us, hl with | [_, _], _ => rfl
theorem bn__law_take : OneBinds d__law_take ["pot", "upto"] := fun K a fd F => F.bindsN fun _ _ _ _ _ _ us hl => match us, hl with | [_, _], _ => rfl
theorem bn__law_of : OneBinds d__law_of ["pot", "some"] := fun K a fd F => F.bindsN fun _ _ _ _ _ _ us hl => match us, hl with | [_, _], _ => rfl
theorem bn__law_cells : OneBinds d__law_cells ["script", "most"] := fun K a fd F => F.bindsN fun _ _ _ _ _ _ us hl => match us, hl with | [_, _], _ => rfl
theorem bn__law_is_int : OneBinds d__law_is_int ["value", "low", "high"] := fun K a fd F => F.bindsN fun _ _ _ _ _ _ us hl => match us, hl with | [_, _, _], _ => rfl
theorem bn__law_odd : OneBinds d__law_odd ["pot"] := fun K a fd F => F.bindsN fun _ _ _ _ _ _ us hl => match us, hl with | [_], _ => rfl
theorem bn__law_bent : OneBinds d__law_bent ["pot", "value"] := fun K a fd F => F.bindsN fun _ _ _ _ _ _ us hl => match us, hl with | [_, _], _ => rfl
theorem bn__law_gcd : OneBinds d__law_gcd ["one", "other"] := fun K a fd F => F.bindsN fun _ _ _ _ _ _ us hl => match us, hl with | [_, _], _ => rfl
theorem bn__law_least : OneBinds d__law_least ["top", "low"] := fun K a fd F => F.bindsN fun _ _ _ _ _ _ us hl => match us, hl with | [_, _], _ => rfl
theorem bn__law_ratio : OneBinds d__law_ratio ["pot"] := fun K a fd F => F.bindsN fun _ _ _ _ _ _ us hl => match us, hl with | [_], _ => rfl
theorem bn__law_apart : OneBinds d__law_apart ["ratio", "one"] := fun K a fd F => F.bindsN fun _ _ _ _ _ _ us hl => match us, hl with | [_, _], _ => rfl
theorem bn__law_is_farther : OneBinds d__law_is_farther ["ratio", "one", "other"] := fun K a fd F => F.bindsN fun _ _ _ _ _ _ us hl => match us, hl with | [_, _, _], _ => rfl
theorem bn__law_right : OneBinds d__law_right ["pot"] := fun K a fd F => F.bindsN fun _ _ _ _ _ _ us hl => match us, hl with | [_], _ => rfl
theorem bn__law_is_great_right : OneBinds d__law_is_great_right ["pot"] := fun K a fd F => F.bindsN fun _ _ _ _ _ _ us hl => match us, hl with | [_], _ => rfl
theorem bn_law : OneBinds d_law ["script"] := fun K a fd F => F.bindsN fun _ _ _ _ _ _ us hl => match us, hl with | [_], _ => rfl
theorem binds : AllBinds fn NP := ⟨bn_is_integer, bn_is_between, bn_common, bn_is_ratio, bn_check_ratio, bn_check_most, bn_least, bn_is_less, bn_below_of, bn_above_of, bn_neighbours, bn_apart, bn_near_of, bn_near_ratio, bn_shows_near, bn__law_pot, bn__law_take, bn__law_of, bn__law_cells, bn__law_is_int, bn__law_odd, bn__law_bent, bn__law_gcd, bn__law_least, bn__law_ratio, bn__law_apart, bn__law_is_farther, bn__law_right, bn__law_is_great_right, bn_law, trivial⟩
theorem keys : nodupB (big.map (·.1)) = true := by kernel_rfl
theorem has_words : Has X c_words := Has.of_lookup (big := big) rfl keys (fun p hp => by unfold big; simp only [List.mem_append]; simp [hp])
theorem has_cogs : Has X c_cogs := Has.of_lookup (big := big) rfl keys (fun p hp => by unfold big; simp only [List.mem_append]; simp [hp])
theorem has_chances : Has X c_chances := Has.of_lookup (big := big) rfl keys (fun p hp => by unfold big; simp only [List.mem_append]; simp [hp])
theorem has_ratios : Has X c_ratios := Has.of_lookup (big := big) rfl keys (fun p hp => by unfold big; simp only [List.mem_append]; simp [hp])
theorem has_lawc : Has X c_lawc := Has.of_lookup (big := big) rfl keys (fun p hp => by unfold big; simp only [List.mem_append]; simp [hp])
theorem has_law_k60 : Has X c_law_k60 := Has.of_lookup (big := big) rfl keys (fun p hp => by unfold big; simp only [List.mem_append]; simp [hp])
theorem lin : chkX Xc ids gids = true := by kernel_rfl
theorem tok : TxOk X ids.contains gids.contains (ixOf ids) (ixOf gids) T (Gn.map (·.2)) := by
  refine tx_ok (X := X) (take := f_take) (pot := f_pot) lin (by kernel_rfl) (by rfl) (by rfl) (fun n π S P k u s q r f hf p h1 h2 hq => take_step p h1 h2 (takeB_run rfl ⟨by decide, by decide, by decide, by decide, by decide, by decide, by decide, by decide, by decide, by decide, by decide⟩ hf (by exact p.at_ k r _ _ _ h2 h1) hq)) (fun n S is p a b c f hf h => pot_step (by decide) (by decide) hf (fun h0 h1 => pot2_ev (by decide) h0 h1) h)
abbrev lawIx : Nat := 29
abbrev lawId : Nat := 1049
abbrev lawTop : Nat := 39
end K60

end
section
set_option Elab.async false
set_option linter.all false
set_option maxRecDepth 100000
set_option maxHeartbeats 1000000
/-! The law's own defs. -/
namespace K60
open PySem L2 Mi Pv Pr
theorem Wv_step {G : Nat → Option U} {cal : CalU} {W : Nat} {ρ : LocU} {P : Ps} {s : Sm} {ss : List Sm} {Qn : LocU → Ps → Prop} {Qr : U → Ps → Prop} (h : Wv (exU G W cal s ρ P) (fun ρ1 P1 => Wv (exUs G W cal ss ρ1 P1) Qn Qr) Qr) : Wv (exUs G W cal (s :: ss) ρ P) Qn Qr := by
  rw [xs_cons, Wv_seq]
  exact h
theorem hW : 10000000 ≤ X.W := W0_ge
theorem hG1 : X.G 121 = some (.int 1000000) := rfl
theorem hG2 : X.G 120 = some (.int 200) := rfl
section
variable {n : Nat} {P : Ps} {N : Int} {k : Nat} {Q : U → Ps → Prop} {a b m : Nat}
theorem w_gcd {a b : Nat} (h : b < 10000000) : calU X (n + 1) 911 [.int (a : Int), .int (b : Int)] P = some (.ok (.int (Nat.gcd a b : Nat)) P) := by
  have w : Wu (calU X (n + 1) 911 [.int (a : Int), .int (b : Int)] P) fun u P' => u = .int (Nat.gcd a b : Nat) ∧ P' = P := by
    refine Wu_call (F := f__law_gcd) (by omega) (at__law_gcd has_lawc) rfl ?_
    simp only [f__law_gcd, b__law_gcd, s__law_gcd_1, l__law_gcd_1, xs_cons, xs_nil, Wv_seq, x_whl]
    refine Wv_whl (fun j ρ P' => P' = P ∧ ∃ x : Nat, ρ = [some (.int x), some (.int j)] ∧ Nat.gcd x j = Nat.gcd a b) ?_ X.W b _ P (by have := hW; omega) ⟨rfl, a, rfl, rfl⟩
    rintro j ρ P' ⟨rfl, x, rfl, hg⟩
    by_cases hj : j = 0
    · subst hj
      rw [Nat.gcd_zero_right] at hg
      simp [hg]
    · have hp : (0 : Int) < j := by omega
      simp [hj, size_eq, hp]
      refine ⟨by omega, x % j, Nat.mod_lt x (by omega), j, ⟨rfl, rfl⟩, ?_⟩
      rw [Nat.gcd_comm j (x % j), ← Nat.gcd_rec, Nat.gcd_comm]
      exact hg
  obtain ⟨u, P', e, rfl, rfl⟩ := w
  exact e
theorem w_least {t l : Nat} (h0 : 0 < l) (h : l < 10000000) : calU X (n + 2) 1043 [.int (t : Int), .int (l : Int)] P = some (.ok (fU' (lowest t l)) P) := by
  rw [call_eq (by omega) (at__law_least_v2 has_lawc) rfl]
  have g0 : 0 < Nat.gcd t l := Nat.gcd_pos_of_pos_right _ h0
  have g1 : Nat.gcd t l ≤ l := Nat.gcd_le_right _ h0
  have hf : fdB ((Nat.gcd t l : Nat) : Int) = true := fdB_p (by omega) (by omega)
  simp [f__law_least_v2, b__law_least_v2, w_gcd h, hf, size_eq, fU', lowest]
theorem w_ratio (h : Pot N k P) (hN : N ≤ 2 ^ 37) (kk : ∀ (a b : Nat) P', 1 ≤ a → a ≤ 1000000 → 1 ≤ b → b ≤ 1000000 → Pot (N + 3) k P' → Q (fU' (a, b)) P') : Wu (calU X (n + 3) 1044 [.pot k] P) Q := by
  refine Wu_call (F := f__law_ratio) (by omega) (at__law_ratio has_lawc) rfl ?_
  have p6 : powB 10 6 = true := powB_of ⟨by decide, by decide, by decide, by decide⟩
  simp [f__law_ratio, b__law_ratio, p6, size_eq]
  refine w_of has_lawc tk_ok h (by omega) (by simp) (by simp) fun x P1 hx h1 => ?_
  have hx2 : ∃ u : Int, x = .int u ∧ 1 ≤ u ∧ u ≤ 1000000 := by
    simp only [List.mem_cons, List.not_mem_nil, or_false] at hx
    rcases hx with rfl | rfl | rfl
    · exact ⟨_, rfl, by omega, by omega⟩
    · exact ⟨_, rfl, by omega, by omega⟩
    · exact ⟨_, rfl, by omega, by omega⟩
  obtain ⟨u, rfl, u1, u2⟩ := hx2
  try simp
  refine w_take tk_ok h1 (by omega) u1 (by omega) fun d P2 d0 d1 h2 => ?_
  try simp
  refine w_take tk_ok h2 (by omega) u1 (by omega) fun e P3 e0 e1 h3 => ?_
  try simp
  obtain ⟨d, rfl⟩ := Int.eq_ofNat_of_zero_le d0
  obtain ⟨e, rfl⟩ := Int.eq_ofNat_of_zero_le e0
  have z := kk (1 + d) (1 + e) P3 (by omega) (by omega) (by omega) (by omega) (h3.mono (by omega))
  have e9 : fU' (1 + d, 1 + e) = .tup [.int (1 + (d : Int)), .int (1 + (e : Int))] := by
    unfold fU'
    simp
  rw [e9] at z
  exact z
theorem w_apart {f : Fq} (ha : a < 2 ^ 60) (hb : b < 2 ^ 60) (hf1 : f.1 < 2 ^ 60) (hf2 : f.2 < 2 ^ 60) : calU X (n + 1) 1045 [fU' (a, b), fU' f] P = some (.ok (fU' (apartQ a b f)) P) := by
  rw [call_eq (by omega) (at__law_apart has_law_k60) rfl]
  have m1 : mulB (f.1 : Int) (b : Int) = true := mulB_l (by omega) (by omega)
  have m2 : mulB (a : Int) (f.2 : Int) = true := mulB_l (by omega) (by omega)
  have m3 : mulB (f.2 : Int) (b : Int) = true := mulB_l (by omega) (by omega)
  have e : U.tup [.int (if (f.1 : Int) * (b : Int) - (a : Int) * (f.2 : Int) < 0 then -((f.1 : Int) * (b : Int) - (a : Int) * (f.2 : Int)) else (f.1 : Int) * (b : Int) - (a : Int) * (f.2 : Int)), .int ((f.2 : Int) * (b : Int))] = fU' (apartQ a b f) := by
    unfold fU' apartQ absN
    rw [← Int.natCast_mul, ← Int.natCast_mul, ← Int.natCast_mul]
    congr 3
    generalize f.1 * b = x
    generalize a * f.2 = y
    split <;> split <;> omega
  simp only [f__law_apart, b__law_apart, xs_cons, xs_nil, x_ret, eu_tup, eus_cons, eus_nil, eu_bi, eu_op, eu_ix, eu_var, eu_int, fq0, fq1, liftU_some, bndV_ok, ou_mul, ou_sub, m1, m2, m3, if_true, bu_abs, bndO_ok, seqO_rt, finO_rt, List.getElem?_cons_zero, List.getElem?_cons_succ, List.map_cons, List.map_nil, List.cons_append, List.nil_append, List.length_cons, List.length_nil, e]
  rw [if_pos (by rw [size_eq]; omega)]
  simp
/-- farther: the second is nearer -/
theorem w_farther {f g : Fq} (h : Rt a b m) (hf : f.1 ≤ 1000 ∧ f.2 ≤ 1000) (hg : g.1 ≤ 1000 ∧ g.2 ≤ 1000) : calU X (n + 2) 1046 [fU' (a, b), fU' f, fU' g] P = some (.ok (.bl (lessQ (apartQ a b g) (apartQ a b f))) P) := by
  rw [call_eq (by omega) (at__law_is_farther has_law_k60) rfl]
  have ha : a < 2 ^ 60 := by have := h.a2; omega
  have hb : b < 2 ^ 60 := by have := h.b2; omega
  have p1 := w_apart (n := n) (P := P) (a := a) (b := b) (f := f) ha hb (by omega) (by omega)
  have p2 := w_apart (n := n) (P := P) (a := a) (b := b) (f := g) ha hb (by omega) (by omega)
  obtain ⟨s1, s2⟩ := apart_small h hf
  obtain ⟨s3, s4⟩ := apart_small h hg
  have m1 : mulB ((apartQ a b f).1 : Int) ((apartQ a b g).2 : Int) = true := mulB_l (by omega) (by omega)
  have m2 : mulB ((apartQ a b g).1 : Int) ((apartQ a b f).2 : Int) = true := mulB_l (by omega) (by omega)
  have e : decide (((apartQ a b g).1 : Int) * ((apartQ a b f).2 : Int) < ((apartQ a b f).1 : Int) * ((apartQ a b g).2 : Int)) = lessQ (apartQ a b g) (apartQ a b f) := by
    unfold lessQ
    rw [Bool.eq_iff_iff, decide_eq_true_eq, decide_eq_true_eq, ← Int.natCast_mul, ← Int.natCast_mul]
    exact Int.ofNat_lt
  simp [f__law_is_farther, b__law_is_farther, p1, p2, size_eq, fq0, fq1, m1, m2, e]
end
end K60

end
section
set_option Elab.async false
set_option linter.all false
set_option maxRecDepth 100000
set_option maxHeartbeats 1000000
/-! The law's looks at a ratio, piece by piece. -/
namespace K60
open PySem L2 Mi Pv Pr
theorem plain_fq (n : Nat) (f : Fq) : plainU (n + 1) (fU' f) = true := by unfold fU'; rw [plainU]; simp [plainU]
theorem plain_fqs (n : Nat) (l : List Fq) : plainU (n + 2) (.lst (l.map fU')) = true := by
  rw [plainU, List.all_map, List.all_eq_true]
  exact fun f _ => plain_fq n f
theorem plain_opt (n : Nat) (o : Option Fq) : plainU (n + 1) (optU o) = true := by
  cases o with
  | none => rfl
  | some f => exact plain_fq n f
theorem fU_inj {f g : Fq} : fU' f = fU' g ↔ f = g := by
  unfold fU'
  constructor
  · intro h
    injection h with h
    injection h with h1 h2
    injection h1 with h1
    injection h2 with h2 _
    injection h2 with h2
    exact Prod.ext (Int.ofNat.inj h1) (Int.ofNat.inj h2)
  · rintro rfl; rfl
theorem foldl_app {α β : Type} (g : α → List β) : ∀ (l : List α) (s : List β), l.foldl (fun s i => s ++ g i) s = s ++ l.flatMap g
  | [], s => by simp
  | i :: l, s => by rw [List.foldl_cons, foldl_app g l, List.flatMap_cons, List.append_assoc]
def rowQ (m i : Nat) : List Fq := ((List.range (m + 1)).filter fun t => decide (Nat.gcd t (i + 1) = 1)).map fun t => (t, i + 1)
theorem rowQ_len (m i : Nat) : (rowQ m i).length ≤ m + 1 := by
  unfold rowQ
  rw [List.length_map]
  refine Nat.le_trans (List.length_filter_le _ _) ?_
  rw [List.length_range]
  exact Nat.le_refl _
theorem every_len {m : Nat} : ∀ l : List Nat, (l.flatMap (rowQ m)).length ≤ l.length * (m + 1)
  | [] => by simp
  | i :: l => by
    rw [List.flatMap_cons, List.length_append, List.length_cons, Nat.add_mul]
    have := rowQ_len m i
    have := every_len (m := m) l
    omega
theorem everyQ_len (m : Nat) : (everyQ m).length ≤ m * (m + 1) := by
  have := every_len (m := m) (List.range m)
  rw [List.length_range] at this
  exact this
section
variable {n : Nat} {P : Ps} {a b m : Nat} {x0 o3 o4 o5 o6 o7 o8 o9 o10 o11 o12 o13 o14 o15 o16 o17 : Option U}
/-- all fractions -/
theorem r_every (h : Rt a b m) : ∃ o4' , exU X.G X.W (calU X (n + 3)) s__law_right_v52_1 [x0, some (fU' (a, b)), some (.int (m : Int)), some (.lst []), o4, o5, o6, o7, o8, o9, o10, o11, o12, o13, o14, o15, o16, o17] P
    = some (.nx [x0, some (fU' (a, b)), some (.int (m : Int)), some (.lst ((everyQ m).map fU')), o4', o5, o6, o7, o8, o9, o10, o11, o12, o13, o14, o15, o16, o17] P) := by
  obtain ⟨a1, a2, b1, b2, m1, m2⟩ := h
  have hb : rngB 1 ((m : Int) + 1) = true := rngB_of (by omega) (by omega) (by omega) (by omega)
  have hb0 : rngB 0 ((m : Int) + 1) = true := rngB_of (by omega) (by omega) (by omega) (by omega)
  have hrow : everyQ m = (List.range m).flatMap (rowQ m) := rfl
  have hlen := everyQ_len m
  have hlm : m * (m + 1) ≤ 200 * 201 := Nat.mul_le_mul m2 (by omega)
  have key : ∃ ρ', exU X.G X.W (calU X (n + 3)) s__law_right_v52_1 [x0, some (fU' (a, b)), some (.int (m : Int)), some (.lst []), o4, o5, o6, o7, o8, o9, o10, o11, o12, o13, o14, o15, o16, o17] P = some (.nx ρ' P) ∧
      ∃ (s : List Fq) (o4' : Option U), ρ' = [x0, some (fU' (a, b)), some (.int (m : Int)), some (.lst (s.map fU')), o4', o5, o6, o7, o8, o9, o10, o11, o12, o13, o14, o15, o16, o17] ∧ s ++ ([] : List Nat).flatMap (rowQ m) = everyQ m ∧ ∀ i ∈ ([] : List Nat), i < m := by
    refine x_for_inv (fun (i : Nat) => U.int ((i + 1 : Nat) : Int)) (fun rest ρ => ∃ (s : List Fq) (o4' : Option U), ρ = [x0, some (fU' (a, b)), some (.int (m : Int)), some (.lst (s.map fU')), o4', o5, o6, o7, o8, o9, o10, o11, o12, o13, o14, o15, o16, o17] ∧ s ++ rest.flatMap (rowQ m) = everyQ m ∧ ∀ i ∈ rest, i < m)
      (List.range m) (ds := [.int 1, .int ((m : Int) + 1)]) (by simp) (by rw [iu_rng2, hb, if_pos rfl, rg1]) ⟨[], o4, rfl, rfl, fun i hi => List.mem_range.mp hi⟩ ?_
    rintro i rest ρ ⟨s, o4', rfl, hs, hi⟩
    have him := hi i List.mem_cons_self
    have el : evU X.G (calU X (n + 3)) e__law_right_v52_1 [x0, some (fU' (a, b)), some (.int (m : Int)), some (.lst (s.map fU')), some (.int ((i + 1 : Nat) : Int)), o5, o6, o7, o8, o9, o10, o11, o12, o13, o14, o15, o16, o17] P = some (.ok (.lst ((rowQ m i).map fU')) P) := by
      have z := lc_eq (G := X.G) (cal := calU X (n + 3)) (ρ := [x0, some (fU' (a, b)), some (.int (m : Int)), some (.lst (s.map fU')), some (.int ((i + 1 : Nat) : Int)), o5, o6, o7, o8, o9, o10, o11, o12, o13, o14, o15, o16, o17]) (P := P) (vs := [5]) (t := .one 5) (k := .rng1) (its := [.op .add (.var 2) (.lit (.int 1))]) (cs := [.cmp .eq (.call 911 [.var 5, .var 4]) (.lit (.int 1))]) (elt := .tup [.var 5, .var 4])
        (ds := [.int ((m : Int) + 1)]) (xs := List.range (m + 1)) (fun (t : Nat) => U.int (t : Int)) (fun t => decide (Nat.gcd t (i + 1) = 1)) (fun t => fU' (t, i + 1)) (by simp) (by
          rw [iu_rng1, hb0, if_pos rfl]
          congr 1
          exact rg0 (m + 1)) (fun t ht => by
          have hg := w_gcd (n := n + 2) (P := P) (a := t) (b := i + 1) (by omega)
          have e : decide (((Nat.gcd t (i + 1) : Nat) : Int) = 1) = decide (Nat.gcd t (i + 1) = 1) := by
            rw [Bool.eq_iff_iff, decide_eq_true_eq, decide_eq_true_eq]
            omega
          simp only [Int.natCast_add, Int.natCast_one] at hg
          by_cases q : Nat.gcd t (i + 1) = 1
          · simp [hg, q]
          · have q' : ¬ ((Nat.gcd t (i + 1) : Nat) : Int) = 1 := by omega
            simp [hg, q, q']) (fun t ht hp => by simp [size_eq, fU']) (by
          refine Nat.le_trans (List.length_filter_le _ _) ?_
          rw [List.length_range, size_eq]
          omega)
      have e2 : ((List.range (m + 1)).filter fun t => decide (Nat.gcd t (i + 1) = 1)).map (fun t => fU' (t, i + 1)) = (rowQ m i).map fU' := by
        unfold rowQ
        rw [List.map_map]
        rfl
      rw [← e2]
      exact z
    have hsl : s.length + (rowQ m i).length ≤ 16777216 := by
      have := congrArg List.length hs
      rw [List.flatMap_cons, List.length_append, List.length_append] at this
      omega
    refine ⟨_, [x0, some (fU' (a, b)), some (.int (m : Int)), some (.lst ((s ++ rowQ m i).map fU')), some (.int ((i + 1 : Nat) : Int)), o5, o6, o7, o8, o9, o10, o11, o12, o13, o14, o15, o16, o17], rfl, ?_, s ++ rowQ m i, _, rfl, by rw [← hs, List.flatMap_cons, List.append_assoc], fun j hj => hi j (List.mem_cons_of_mem _ hj)⟩
    simp only [Int.natCast_add, Int.natCast_one] at el ⊢
    simp [l__law_right_v52_1, el, size_eq, hsl]
  obtain ⟨ρ', e, s, o4', rfl, hs, _⟩ := key
  rw [List.flatMap_nil, List.append_nil] at hs
  rw [hs] at e
  exact ⟨o4', e⟩
/-- a lot of fractions by a test -/
theorem r_lot {l : List Fq} {ρ : LocU} {i : Nat} {c : E} {p : Fq → Bool} {cal : CalU} (hl : l.length ≤ 16777216) (h1 : ρ[i]? = some (some (.lst (l.map fU')))) (hc : ∀ f ∈ l, evTU X.G cal [c] ((wipeU ρ [7]).set 7 (some (fU' f))) P = some (.ok (p f) P)) (h7 : 7 < ρ.length) :
    evU X.G cal (.lc [7] (.one 7) .seq [.var i] [c] (.var 7)) ρ P = some (.ok (.lst ((l.filter p).map fU')) P) := by
  refine lc_eq fU' p fU' (ds := [.lst (l.map fU')]) (by simp [h1]) rfl (fun f hf => ?_) (fun f hf hp => ?_) (Nat.le_trans (List.length_filter_le _ _) (by rw [size_eq]; exact hl))
  · simpa using hc f hf
  · simp [h7]
theorem r_under (h : Rt a b m) : evU X.G (calU X n) e__law_right_v52_2 [x0, some (fU' (a, b)), some (.int (m : Int)), some (.lst ((everyQ m).map fU')), o4, o5, o6, o7, o8, o9, o10, o11, o12, o13, o14, o15, o16, o17] P = some (.ok (.lst ((underQ a b m).map fU')) P) := by
  have hlen := everyQ_len m
  have hlm : m * (m + 1) ≤ 200 * 201 := Nat.mul_le_mul h.m2 (by have := h.m2; omega)
  refine r_lot (by omega) rfl (fun f hf => ?_) (by simp)
  obtain ⟨f1, f2, f3, f4⟩ := every_mem.mp hf
  have := h.m2
  have m1 : mulB (f.1 : Int) (b : Int) = true := mulB_l (by omega) (by omega)
  have m2 : mulB (a : Int) (f.2 : Int) = true := mulB_r (by omega) (by omega)
  have e : decide ((f.1 : Int) * (b : Int) ≤ (a : Int) * (f.2 : Int)) = decide (f.1 * b ≤ a * f.2) := by
    rw [Bool.eq_iff_iff, decide_eq_true_eq, decide_eq_true_eq, ← Int.natCast_mul, ← Int.natCast_mul]
    exact Int.ofNat_le
  by_cases q : f.1 * b ≤ a * f.2
  · rw [decide_eq_true q] at e
    simp [fq0, fq1, m1, m2, e, q]
  · rw [decide_eq_false q] at e
    simp [fq0, fq1, m1, m2, e, q]
theorem r_over (h : Rt a b m) : evU X.G (calU X n) e__law_right_v52_3 [x0, some (fU' (a, b)), some (.int (m : Int)), some (.lst ((everyQ m).map fU')), o4, o5, o6, o7, o8, o9, o10, o11, o12, o13, o14, o15, o16, o17] P = some (.ok (.lst ((overQ a b m).map fU')) P) := by
  have hlen := everyQ_len m
  have hlm : m * (m + 1) ≤ 200 * 201 := Nat.mul_le_mul h.m2 (by have := h.m2; omega)
  refine r_lot (by omega) rfl (fun f hf => ?_) (by simp)
  obtain ⟨f1, f2, f3, f4⟩ := every_mem.mp hf
  have := h.m2
  have m1 : mulB (f.1 : Int) (b : Int) = true := mulB_l (by omega) (by omega)
  have m2 : mulB (a : Int) (f.2 : Int) = true := mulB_r (by omega) (by omega)
  have e : decide ((a : Int) * (f.2 : Int) ≤ (f.1 : Int) * (b : Int)) = decide (a * f.2 ≤ f.1 * b) := by
    rw [Bool.eq_iff_iff, decide_eq_true_eq, decide_eq_true_eq, ← Int.natCast_mul, ← Int.natCast_mul]
    exact Int.ofNat_le
  by_cases q : a * f.2 ≤ f.1 * b
  · rw [decide_eq_true q] at e
    simp [fq0, fq1, m1, m2, e, q]
  · rw [decide_eq_false q] at e
    simp [fq0, fq1, m1, m2, e, q]
end
end K60

end
section
set_option Elab.async false
set_option linter.all false
set_option maxRecDepth 100000
set_option maxHeartbeats 1000000
namespace K60
open PySem L2 Mi Pv Pr
/-- every's own least and greatest -/
theorem under_cons (a : Nat) {b m : Nat} (hm : 0 < m) : ∃ f l, underQ a b m = f :: l := by
  have h : ((0, 1) : Fq) ∈ underQ a b m := under_mem.mpr ⟨every_mem.mpr ⟨Nat.zero_le _, Nat.le_refl _, hm, by decide⟩, by show 0 * b ≤ a * 1; omega⟩
  cases q : underQ a b m with
  | nil => rw [q] at h; cases h
  | cons f l => exact ⟨f, l, rfl⟩
theorem below_fold {a b m : Nat} (hb : 0 < b) (hm : 0 < m) {f : Fq} {l : List Fq} (h : underQ a b m = f :: l) : (f :: l).foldl stepMax f = belowQ a b m := by
  have hp : ∀ g ∈ f :: l, 0 < g.2 := fun g hg => (every_mem.mp (under_mem.mp (h ▸ hg)).1).2.1
  obtain ⟨c1, c2, c3⟩ := fold_max (f :: l) f (hp f List.mem_cons_self) hp
  have hmem : (f :: l).foldl stepMax f ∈ f :: l := by
    rcases c1 with e | e
    · rw [e]; exact List.mem_cons_self
    · exact e
  have c3 : ∀ g ∈ underQ a b m, leQ g ((f :: l).foldl stepMax f) := fun g hg => c3 g (h ▸ hg)
  have hmem : (f :: l).foldl stepMax f ∈ underQ a b m := by
    have := hmem
    generalize (f :: l).foldl stepMax f = x at this ⊢
    rw [h]
    exact this
  obtain ⟨d1, d2⟩ := under_mem.mp hmem
  exact IsBelow.uniq (a := a) (b := b) (m := m) ⟨d1, d2, fun g hg hle => c3 g (under_mem.mpr ⟨hg, hle⟩)⟩ (below_is hb hm)
theorem above_fold {a b m : Nat} (hb : 0 < b) {f : Fq} {l : List Fq} (h : overQ a b m = f :: l) : aboveQ a b m = some ((f :: l).foldl stepMin f) := by
  have hp : ∀ g ∈ f :: l, 0 < g.2 := fun g hg => (every_mem.mp (over_mem.mp (h ▸ hg)).1).2.1
  obtain ⟨c1, c2, c3⟩ := fold_min (f :: l) f (hp f List.mem_cons_self) hp
  have hmem : (f :: l).foldl stepMin f ∈ f :: l := by
    rcases c1 with e | e
    · rw [e]; exact List.mem_cons_self
    · exact e
  have hmem : (f :: l).foldl stepMin f ∈ overQ a b m := by
    have := hmem
    generalize (f :: l).foldl stepMin f = x at this ⊢
    rw [h]
    exact this
  have c3 : ∀ g ∈ overQ a b m, leQ ((f :: l).foldl stepMin f) g := fun g hg => c3 g (h ▸ hg)
  obtain ⟨d1, d2⟩ := over_mem.mp hmem
  cases q : aboveQ a b m with
  | none =>
    have := (above_none hb).mp q
    rw [h] at this
    cases this
  | some g =>
    congr 1
    exact IsAbove.uniq (a := a) (b := b) (m := m) (above_is hb q) ⟨d1, d2, fun g hg hle => c3 g (over_mem.mpr ⟨hg, hle⟩)⟩
section
variable {n : Nat} {P : Ps} {a b m : Nat} {x0 o3 o4 o5 o6 o7 o8 o9 o10 o11 o12 o13 o14 o15 o16 o17 : Option U}
theorem r_below {f : Fq} {l : List Fq} (hs : ∀ g ∈ f :: l, g.1 ≤ 1000 ∧ g.2 ≤ 1000) : ∃ o7', exU X.G X.W (calU X (n + 3)) s__law_right_v52_2 [x0, some (fU' (a, b)), some (.int (m : Int)), o3, o4, o5, some (.lst ((f :: l).map fU')), o7, o8, some (fU' f), o10, o11, o12, o13, o14, o15, o16, o17] P
    = some (.nx [x0, some (fU' (a, b)), some (.int (m : Int)), o3, o4, o5, some (.lst ((f :: l).map fU')), o7', o8, some (fU' ((f :: l).foldl stepMax f)), o10, o11, o12, o13, o14, o15, o16, o17] P) := by
  have key := x_for_fold (G := X.G) (cal := calU X (n + 3)) (W := X.W) (P := P) (t := .one 7) (k := .seq) (its := [.var 6]) (body := l__law_right_v52_2) (ds := [.lst ((f :: l).map fU')]) (ρ := [x0, some (fU' (a, b)), some (.int (m : Int)), o3, o4, o5, some (.lst ((f :: l).map fU')), o7, o8, some (fU' f), o10, o11, o12, o13, o14, o15, o16, o17])
    fU' stepMax (fun s ρ => (s.1 ≤ 1000 ∧ s.2 ≤ 1000) ∧ ∃ o7', ρ = [x0, some (fU' (a, b)), some (.int (m : Int)), o3, o4, o5, some (.lst ((f :: l).map fU')), o7', o8, some (fU' s), o10, o11, o12, o13, o14, o15, o16, o17]) (f :: l) f (by simp) rfl ⟨hs f List.mem_cons_self, o7, rfl⟩ (by
      rintro s g ρ hg ⟨hsm, o7', rfl⟩
      have hgm := hs g hg
      have m1 : mulB (g.1 : Int) (s.2 : Int) = true := mulB_l (by omega) (by omega)
      have m2 : mulB (s.1 : Int) (g.2 : Int) = true := mulB_l (by omega) (by omega)
      have e : decide ((s.1 : Int) * (g.2 : Int) < (g.1 : Int) * (s.2 : Int)) = lessQ s g := by
        unfold lessQ
        rw [Bool.eq_iff_iff, decide_eq_true_eq, decide_eq_true_eq, ← Int.natCast_mul, ← Int.natCast_mul]
        exact Int.ofNat_lt
      refine ⟨_, [x0, some (fU' (a, b)), some (.int (m : Int)), o3, o4, o5, some (.lst ((f :: l).map fU')), some (fU' g), o8, some (fU' (stepMax s g)), o10, o11, o12, o13, o14, o15, o16, o17], rfl, ?_, ⟨?_, _, rfl⟩⟩
      · unfold stepMax
        cases q : lessQ s g <;> simp [l__law_right_v52_2, fq0, fq1, m1, m2, e, q]
      · unfold stepMax
        split
        · exact hgm
        · exact hsm)
  obtain ⟨ρ', e, _, o7', rfl⟩ := key
  exact ⟨o7', e⟩
theorem r_above {f : Fq} {l : List Fq} (hs : ∀ g ∈ f :: l, g.1 ≤ 1000 ∧ g.2 ≤ 1000) : ∃ o7', exU X.G X.W (calU X (n + 3)) s__law_right_v52_3 [x0, some (fU' (a, b)), some (.int (m : Int)), o3, o4, o5, o6, o7, some (.lst ((f :: l).map fU')), o9, some (fU' f), o11, o12, o13, o14, o15, o16, o17] P
    = some (.nx [x0, some (fU' (a, b)), some (.int (m : Int)), o3, o4, o5, o6, o7', some (.lst ((f :: l).map fU')), o9, some (fU' ((f :: l).foldl stepMin f)), o11, o12, o13, o14, o15, o16, o17] P) := by
  have key := x_for_fold (G := X.G) (cal := calU X (n + 3)) (W := X.W) (P := P) (t := .one 7) (k := .seq) (its := [.var 8]) (body := l__law_right_v52_3) (ds := [.lst ((f :: l).map fU')]) (ρ := [x0, some (fU' (a, b)), some (.int (m : Int)), o3, o4, o5, o6, o7, some (.lst ((f :: l).map fU')), o9, some (fU' f), o11, o12, o13, o14, o15, o16, o17])
    fU' stepMin (fun s ρ => (s.1 ≤ 1000 ∧ s.2 ≤ 1000) ∧ ∃ o7', ρ = [x0, some (fU' (a, b)), some (.int (m : Int)), o3, o4, o5, o6, o7', some (.lst ((f :: l).map fU')), o9, some (fU' s), o11, o12, o13, o14, o15, o16, o17]) (f :: l) f (by simp) rfl ⟨hs f List.mem_cons_self, o7, rfl⟩ (by
      rintro s g ρ hg ⟨hsm, o7', rfl⟩
      have hgm := hs g hg
      have m1 : mulB (g.1 : Int) (s.2 : Int) = true := mulB_l (by omega) (by omega)
      have m2 : mulB (s.1 : Int) (g.2 : Int) = true := mulB_l (by omega) (by omega)
      have e : decide ((g.1 : Int) * (s.2 : Int) < (s.1 : Int) * (g.2 : Int)) = lessQ g s := by
        unfold lessQ
        rw [Bool.eq_iff_iff, decide_eq_true_eq, decide_eq_true_eq, ← Int.natCast_mul, ← Int.natCast_mul]
        exact Int.ofNat_lt
      refine ⟨_, [x0, some (fU' (a, b)), some (.int (m : Int)), o3, o4, o5, o6, some (fU' g), some (.lst ((f :: l).map fU')), o9, some (fU' (stepMin s g)), o11, o12, o13, o14, o15, o16, o17], rfl, ?_, ⟨?_, _, rfl⟩⟩
      · unfold stepMin
        cases q : lessQ g s <;> simp [l__law_right_v52_3, fq0, fq1, m1, m2, e, q]
      · unfold stepMin
        split
        · exact hgm
        · exact hsm)
  obtain ⟨ρ', e, _, o7', rfl⟩ := key
  exact ⟨o7', e⟩
def someQ (m : Nat) : List Fq := (everyQ m).filter fun f => decide (0 < f.1)
theorem some_mem {m : Nat} {f : Fq} : f ∈ someQ m ↔ f ∈ everyQ m ∧ 0 < f.1 := by
  unfold someQ
  rw [List.mem_filter, decide_eq_true_iff]
theorem some_small {m : Nat} (h : m ≤ 200) {f : Fq} (hf : f ∈ someQ m) : f.1 ≤ 1000 ∧ f.2 ≤ 1000 := by
  obtain ⟨f1, f2, f3, f4⟩ := every_mem.mp (some_mem.mp hf).1
  exact ⟨by omega, by omega⟩
theorem r_some (h : Rt a b m) : evU X.G (calU X n) e__law_right_v52_4 [x0, some (fU' (a, b)), some (.int (m : Int)), some (.lst ((everyQ m).map fU')), o4, o5, o6, o7, o8, o9, o10, o11, o12, o13, o14, o15, o16, o17] P = some (.ok (.lst ((someQ m).map fU')) P) := by
  have hlen := everyQ_len m
  have hlm : m * (m + 1) ≤ 200 * 201 := Nat.mul_le_mul h.m2 (by have := h.m2; omega)
  refine r_lot (by omega) rfl (fun f hf => ?_) (by simp)
  by_cases q : 0 < f.1
  · have q' : (0 : Int) < (f.1 : Int) := by omega
    simp [fq0, fq1, q, q']
  · have q' : ¬ (0 : Int) < (f.1 : Int) := by omega
    simp [fq0, fq1, q, q']
theorem r_best (h : Rt a b m) {f : Fq} {l : List Fq} (hs : ∀ g ∈ f :: l, g.1 ≤ 1000 ∧ g.2 ≤ 1000) : ∃ o7', exU X.G X.W (calU X (n + 3)) s__law_right_v52_4 [x0, some (fU' (a, b)), some (.int (m : Int)), o3, o4, o5, o6, o7, o8, o9, o10, some (.lst ((f :: l).map fU')), some (fU' f), o13, o14, o15, o16, o17] P
    = some (.nx [x0, some (fU' (a, b)), some (.int (m : Int)), o3, o4, o5, o6, o7', o8, o9, o10, some (.lst ((f :: l).map fU')), some (fU' ((f :: l).foldl (stepN a b) f)), o13, o14, o15, o16, o17] P) := by
  have key := x_for_fold (G := X.G) (cal := calU X (n + 3)) (W := X.W) (P := P) (t := .one 7) (k := .seq) (its := [.var 11]) (body := l__law_right_v52_4) (ds := [.lst ((f :: l).map fU')]) (ρ := [x0, some (fU' (a, b)), some (.int (m : Int)), o3, o4, o5, o6, o7, o8, o9, o10, some (.lst ((f :: l).map fU')), some (fU' f), o13, o14, o15, o16, o17])
    fU' (stepN a b) (fun s ρ => (s.1 ≤ 1000 ∧ s.2 ≤ 1000) ∧ ∃ o7', ρ = [x0, some (fU' (a, b)), some (.int (m : Int)), o3, o4, o5, o6, o7', o8, o9, o10, some (.lst ((f :: l).map fU')), some (fU' s), o13, o14, o15, o16, o17]) (f :: l) f (by simp) rfl ⟨hs f List.mem_cons_self, o7, rfl⟩ (by
      rintro s g ρ hg ⟨hsm, o7', rfl⟩
      have hgm := hs g hg
      have hf := w_farther (n := n + 1) (P := P) h hsm hgm
      refine ⟨_, [x0, some (fU' (a, b)), some (.int (m : Int)), o3, o4, o5, o6, some (fU' g), o8, o9, o10, some (.lst ((f :: l).map fU')), some (fU' (stepN a b s g)), o13, o14, o15, o16, o17], rfl, ?_, ⟨?_, _, rfl⟩⟩
      · unfold stepN
        cases q : lessQ (apartQ a b g) (apartQ a b s) <;> simp [l__law_right_v52_4, hf, q]
      · unfold stepN
        split
        · exact hgm
        · exact hsm)
  obtain ⟨ρ', e, _, o7', rfl⟩ := key
  exact ⟨o7', e⟩
def fineQ (a b m : Nat) (best : Fq) : List Fq := (someQ m).filter fun f => !lessQ (apartQ a b best) (apartQ a b f)
theorem r_fine (h : Rt a b m) {best : Fq} (hb : best.1 ≤ 1000 ∧ best.2 ≤ 1000) : evU X.G (calU X (n + 2)) e__law_right_v52_5 [x0, some (fU' (a, b)), some (.int (m : Int)), o3, o4, o5, o6, o7, o8, o9, o10, some (.lst ((someQ m).map fU')), some (fU' best), o13, o14, o15, o16, o17] P = some (.ok (.lst ((fineQ a b m best).map fU')) P) := by
  have hlen := everyQ_len m
  have hlm : m * (m + 1) ≤ 200 * 201 := Nat.mul_le_mul h.m2 (by have := h.m2; omega)
  have hl2 : (someQ m).length ≤ (everyQ m).length := List.length_filter_le _ _
  refine r_lot (by omega) rfl (fun f hf => ?_) (by simp)
  have hfs := some_small h.m2 hf
  have hf := w_farther (n := n) (P := P) h hfs hb
  cases q : lessQ (apartQ a b best) (apartQ a b f) <;> simp [hf, q]
end
/-- the law's fine ones: as near as the told one -/
theorem fine_mem {a b m : Nat} (h : Rt a b m) {f0 : Fq} {l : List Fq} (hl : someQ m = f0 :: l) {r : Fq} (hr : IsNear a b m r) {f : Fq} : f ∈ fineQ a b m ((f0 :: l).foldl (stepN a b) f0) ↔ f ∈ someQ m ∧ lessQ (apartQ a b r) (apartQ a b f) = false := by
  have hb : 0 < b := h.b1
  have hp : ∀ g ∈ f0 :: l, 0 < g.2 := fun g hg => (every_mem.mp (some_mem.mp (hl ▸ hg)).1).2.1
  obtain ⟨c1, c2, c3⟩ := fold_near (a := a) hb (f0 :: l) f0 (hp f0 List.mem_cons_self) hp
  have hmem : (f0 :: l).foldl (stepN a b) f0 ∈ someQ m := by
    rw [hl]
    rcases c1 with e | e
    · rw [e]; exact List.mem_cons_self
    · exact e
  generalize (f0 :: l).foldl (stepN a b) f0 = best at *
  have hrm : r ∈ f0 :: l := by rw [← hl]; exact some_mem.mpr ⟨hr.mem, hr.pos⟩
  have d1 : leD a b best r := c3 r hrm
  have d2 : leD a b r best := hr.best best (some_mem.mp hmem).1 (some_mem.mp hmem).2
  have p1 : 0 < best.2 := (every_mem.mp (some_mem.mp hmem).1).2.1
  have p2 : 0 < r.2 := (every_mem.mp hr.mem).2.1
  unfold fineQ
  rw [List.mem_filter]
  have e : ∀ x y : Bool, (!x) = true ↔ x = false := fun x _ => by cases x <;> simp
  rw [e _ true, not_less, not_less]
  refine and_congr_right fun _ => ⟨fun z => ?_, fun z => ?_⟩
  · exact leD.trans hb p1 z d1
  · exact leD.trans hb p2 z d2
end K60

end
section
set_option Elab.async false
set_option linter.all false
set_option maxRecDepth 100000
set_option maxHeartbeats 1000000
/-! Comprehensions that draw. -/
namespace Pr
open PySem L2 Mi Pv
theorem Wv_step {G : Nat → Option U} {cal : CalU} {W : Nat} {ρ : LocU} {P : Ps} {s : Sm} {ss : List Sm} {Qn : LocU → Ps → Prop} {Qr : U → Ps → Prop} (h : Wv (exU G W cal s ρ P) (fun ρ1 P1 => Wv (exUs G W cal ss ρ1 P1) Qn Qr) Qr) : Wv (exUs G W cal (s :: ss) ρ P) Qn Qr := by
  rw [xs_cons, Wv_seq]
  exact h
/-- a statement that goes on for certain -/
theorem Wv_go {G : Nat → Option U} {cal : CalU} {W : Nat} {ρ ρ1 : LocU} {P P1 : Ps} {s : Sm} {ss : List Sm} {Qn : LocU → Ps → Prop} {Qr : U → Ps → Prop} (e : exU G W cal s ρ P = some (.nx ρ1 P1)) (h : Wv (exUs G W cal ss ρ1 P1) Qn Qr) : Wv (exUs G W cal (s :: ss) ρ P) Qn Qr := by
  refine Wv_step ?_
  rw [e, Wv_nx]
  exact h
theorem lc_draw {G : Nat → Option U} {cal : CalU} {ρ : LocU} {P : Ps} {vs : List Nat} {t : Tg} {kk : Ik} {its : List E} {elt : E} {ds xs : List U} {k : Nat} {N K : Int} {A : U → Prop} (h1 : evUs G cal its ρ P = some (.ok ds P)) (h2 : itU kk ds = some xs) (hl : xs.length ≤ sizeLine) (hP : Pot N k P)
    (step : ∀ x ∈ xs, ∀ (j : Nat) P', j < xs.length → Pot (N + j * K) k P' → ∃ ρ', setU (wipeU ρ vs) t x = some ρ' ∧ Wu (evU G cal elt ρ' P') fun d P'' => A d ∧ Pot (N + (j + 1) * K) k P'') :
    Wu (evU G cal (.lc vs t kk its [] elt) ρ P) fun u P' => ∃ ys, u = .lst ys ∧ ys.length = xs.length ∧ (∀ d ∈ ys, A d) ∧ Pot (N + xs.length * K) k P' := by
  rw [eu_lc, h1, bndV_ok, h2]
  dsimp only
  rw [Wu_bnd, Wu_noX]
  refine Wu_mono (Wu_comp (Q := fun ys P' => ys.length = xs.length ∧ (∀ d ∈ ys, A d) ∧ Pot (N + xs.length * K) k P') (fun rest acc P' => (∀ x ∈ rest, x ∈ xs) ∧ acc.length + rest.length = xs.length ∧ (∀ d ∈ acc, A d) ∧ Pot (N + acc.length * K) k P') ?_ xs [] P ⟨fun x h => h, by simp, (fun d h => by cases h), by simpa using hP⟩ ?_) ?_
  · rintro x rest acc P' ⟨g1, g2, g3, g4⟩
    simp only [List.length_cons] at g2
    obtain ⟨ρ', e, w⟩ := step x (g1 x List.mem_cons_self) acc.length P' (by omega) g4
    rw [e]
    simp only [Option.bind_some, eut_nil, Wu_ok, if_true]
    refine Wu_mono w fun d P'' ⟨w1, w2⟩ => ⟨fun y hy => g1 y (List.mem_cons_of_mem _ hy), by simp; omega, fun z hz => ?_, by simpa using w2⟩
    rcases List.mem_append.mp hz with hz | hz
    · exact g3 z hz
    · rw [List.mem_singleton.mp hz]; exact w1
  · rintro ys P' ⟨_, g2, g3, g4⟩
    simp only [List.length_nil, Nat.add_zero] at g2
    rw [g2] at g4
    exact ⟨g2, g3, g4⟩
  · rintro ys P' ⟨g1, g2, g3⟩
    rw [List.nil_append] at g1 g2
    rw [if_pos (by rw [g1]; exact hl), Wu_ok]
    exact ⟨ys, rfl, g1, g2, g3⟩
theorem all_bl {ys : List U} (h : ∀ d ∈ ys, d = .bl true) : biU .all [.lst ys] = some (.bl true) := by
  have e : ys = (ys.map fun _ => true).map U.bl := by
    rw [List.map_map]
    induction ys with
    | nil => rfl
    | cons y ys ih =>
      rw [List.map_cons, ← ih fun d hd => h d (List.mem_cons_of_mem _ hd), h y List.mem_cons_self]
      rfl
  rw [bu_all, e, blsU_map]
  simp
end Pr

end
section
set_option Elab.async false
set_option linter.all false
set_option maxRecDepth 100000
set_option maxHeartbeats 1000000
namespace K60
open PySem L2 Mi Pv Pr
section
variable {n : Nat} {P : Ps} {N : Int} {k : Nat} {Qn : LocU → Ps → Prop} {Q : U → Ps → Prop} {a b m : Nat} {o3 o4 o5 o6 o7 o8 o9 o10 o12 o15 o16 o17 : Option U}
theorem bw_fq {f : Fq} {w d r : Nat} (hf : f.1 ≤ 10 ^ 9 ∧ f.2 ≤ 10 ^ 9) (hw : 132 ≤ w) (hd : 2 ≤ d) : Bw w d r (fU' f) :=
  (Bl.cons (w1 := 62) (w2 := 64) (w := 128) (d := 1) (r := r) (bw_int (by omega) (by omega) (by omega)) (Bl.cons (w1 := 62) (w2 := 0) (bw_int (by omega) (by omega) (by omega)) Bl.nil (by omega)) (by omega)).tup (by omega) (by omega)
theorem bw_opt {o : Option Fq} {w d r : Nat} (hf : ∀ f, o = some f → f.1 ≤ 10 ^ 9 ∧ f.2 ≤ 10 ^ 9) (hw : 132 ≤ w) (hd : 2 ≤ d) : Bw w d r (optU o) := by
  cases o with
  | none => exact bw_non (by omega) (by omega)
  | some f => exact bw_fq (hf f rfl) hw hd
/-- fit for the judge -/
abbrev Fit (v : U) : Prop := Bw 10000 8 8 v
theorem Fit.rp {v : U} (h : Fit v) : Rp v := Bw.rp h (by omega) (by omega) (by omega)
/-- what the judge says of a value is whether it is one of the fine ones -/
theorem judge (h : Rt a b m) {r : Fq} (hr : IsNear a b m r) {F : List Fq} (hF : ∀ f, f ∈ F ↔ f ∈ someQ m ∧ lessQ (apartQ a b r) (apartQ a b f) = false) {v : U} (hv : Fit v) : showsQ a b m r v = decide (v.toP.shown ∈ F.map fun f => (fU' f).toP.shown) := by
  rw [Bool.eq_iff_iff, decide_eq_true_eq, List.mem_map]
  have small : ∀ f ∈ F, f.1 ≤ 10 ^ 9 ∧ f.2 ≤ 10 ^ 9 := fun f hf => by
    have := some_small h.m2 ((hF f).mp hf).1
    exact ⟨by omega, by omega⟩
  constructor
  · intro hs
    unfold showsQ at hs
    split at hs
    · rename_i x y
      simp only [Bool.and_eq_true, decide_eq_true_eq, Bool.not_eq_true'] at hs
      obtain ⟨⟨x1, x2⟩, ⟨y1, y2⟩, hg, hl⟩ := hs
      refine ⟨(x.toNat, y.toNat), (hF _).mpr ⟨some_mem.mpr ⟨every_mem.mpr ⟨by show x.toNat ≤ m; omega, by show 1 ≤ y.toNat; omega, by show y.toNat ≤ m; omega, hg⟩, by show 0 < x.toNat; omega⟩, hl⟩, ?_⟩
      have e : fU' (x.toNat, y.toNat) = .tup [.int x, .int y] := by
        unfold fU'
        have e1 : ((x.toNat : Nat) : Int) = x := by omega
        have e2 : ((y.toNat : Nat) : Int) = y := by omega
        simp only [e1, e2]
      rw [e]
    · cases hs
  · rintro ⟨f, hf, e⟩
    have hfs := hF f |>.mp hf
    have e2 := (Rp.inj (Bw.rp (bw_fq (w := 132) (d := 2) (r := 0) (small f hf) (by omega) (by omega)) (by omega) (by omega) (by omega)) hv.rp).mp e
    have ev : v = fU' f := by
      unfold fU' at e2
      rw [U.toP, toPs_map'] at e2
      obtain ⟨us, rfl, e3⟩ := toP_tup_inv e2.symm
      obtain ⟨x, us, rfl, e4, e5⟩ := toPs_cons_inv e3
      obtain ⟨y, us, rfl, e6, e7⟩ := toPs_cons_inv e5
      rw [toPs_nil_inv e7]
      rw [U.toP] at e4 e6
      rw [toP_int_inv e4, toP_int_inv e6]
      rfl
    rw [ev]
    obtain ⟨h1, h2⟩ := some_mem.mp hfs.1
    obtain ⟨f1, f2, f3, f4⟩ := every_mem.mp h1
    have hl : lessQ (apartQ a b r) (apartQ a b (f.1, f.2)) = false := hfs.2
    unfold showsQ fU'
    simp only [Bool.and_eq_true, decide_eq_true_eq, Bool.not_eq_true', Int.toNat_natCast]
    exact ⟨⟨by omega, by omega⟩, ⟨by omega, by omega⟩, f4, hl⟩
/-- the end: all values judged -/
theorem st17 (h : Rt a b m) {r : Fq} (hn : nearest a b (sides a b m) = some r) (hr : IsNear a b m r) {F : List Fq} (hF : ∀ f, f ∈ F ↔ f ∈ someQ m ∧ lessQ (apartQ a b r) (apartQ a b f) = false) (hFl : F.length ≤ 100000) {vs : List U} (hv : ∀ v ∈ vs, Fit v) (hvl : vs.length ≤ 1000) {x0 o11 o14 : Option U}
    (kk : Q (.bl true) P) : Wv (exUs X.G X.W (calU X (n + 6)) (b__law_right_v52.drop 17) [x0, some (fU' (a, b)), some (.int (m : Int)), o3, o4, o5, o6, o7, o8, o9, o10, o11, o12, some (.lst (F.map fU')), o14, some (.lst vs), o16, o17] P) Qn Q := by
  have hrm : r.1 ≤ m ∧ r.2 ≤ m := by
    obtain ⟨f1, f2, f3, f4⟩ := every_mem.mp hr.mem
    exact ⟨f1, f3⟩
  have small : ∀ f ∈ F, f.1 ≤ 10 ^ 9 ∧ f.2 ≤ 10 ^ 9 := fun f hf => by
    have := some_small h.m2 ((hF f).mp hf).1
    exact ⟨by omega, by omega⟩
  have e9 : ∀ ρ : LocU, ρ[13]? = some (some (.lst (F.map fU'))) → 7 < ρ.length → evU X.G (calU X (n + 6)) e__law_right_v52_9 ρ P = some (.ok (.lst ((F.map fun f => (fU' f).toP.shown).map U.str)) P) := fun ρ hρ hl => by
    rw [List.map_map]
    refine lc_all (xs := F) fU' (fun f => U.str (fU' f).toP.shown) (ds := [.lst (F.map fU')]) (by simp [hρ]) rfl (fun f hf => by simp) (fun f hf => ?_) (by rw [size_eq]; omega)
    have hrp : reprU (fU' f) = some (fU' f).toP.shown := (Bw.rp (bw_fq (w := 132) (d := 2) (r := 0) (small f hf) (by omega) (by omega)) (by omega) (by omega) (by omega)).repr
    simp [hl, hrp]
  have e10 : evU X.G (calU X (n + 6)) e__law_right_v52_10 [x0, some (fU' (a, b)), some (.int (m : Int)), o3, o4, o5, o6, o7, o8, o9, o10, o11, o12, some (.lst (F.map fU')), o14, some (.lst vs), o16, o17] P = some (.ok (.lst (vs.map fun _ => .bl true)) P) := by
    refine lc_all (xs := vs) id (fun _ => .bl true) (ds := [.lst vs]) (by simp) (by simp) (fun f hf => by simp) (fun v hv' => ?_) (by rw [size_eq]; omega)
    have hf := hv v hv'
    have es := u_shows_near (X := X) (n := n) (P := P) has_words hG1 hG2 has_cogs has_chances has_ratios hW h hn hrm (v := v) hf.r
    have hrp : reprU v = some v.toP.shown := hf.rp.repr
    have ej := judge h hr hF hf
    have ei := (cu_inS (x := v.toP.shown) (ys := F.map fun f => (fU' f).toP.shown)).1
    rw [← ej] at ei
    simp [es, hrp, e9, ei, -List.map_map]
  refine Wv_step (s := .ret (.bi .all [e__law_right_v52_10])) (ss := []) ?_
  have ha : biU .all [.lst (vs.map fun _ => U.bl true)] = some (.bl true) := all_bl fun d hd => by
    obtain ⟨_, _, rfl⟩ := List.mem_map.mp hd
    rfl
  rw [x_ret, Wv_bnd, eu_bi, eus_cons, e10, bndV_ok, eus_nil, bndV_ok, bndV_ok, ha, liftU_some, Wu_ok, Wv_rt]
  exact kk
/-- the values -/
theorem st15 (h : Rt a b m) {r : Fq} (hn : nearest a b (sides a b m) = some r) (hr : IsNear a b m r) {F : List Fq} (hF : ∀ f, f ∈ F ↔ f ∈ someQ m ∧ lessQ (apartQ a b r) (apartQ a b f) = false) (hFl : F.length ≤ 100000) (hpot : Pot N k P) (hN : N ≤ 2 ^ 36) {p : Fq} {q : Option Fq} (hp : p.1 ≤ 1000 ∧ p.2 ≤ 1000) (hq : ∀ f, q = some f → f.1 ≤ 1000 ∧ f.2 ≤ 1000) {S : List Fq} (hS : ∀ f ∈ S, f.1 ≤ 1000 ∧ f.2 ≤ 1000) (hS0 : S ≠ []) (hSl : S.length ≤ 100000)
    (kk : ∀ P', Pot (N + 60) k P' → Q (.bl true) P') : Wv (exUs X.G X.W (calU X (n + 6)) (b__law_right_v52.drop 15) [some (.pot k), some (fU' (a, b)), some (.int (m : Int)), o3, o4, o5, o6, o7, o8, some (fU' p), some (optU q), some (.lst (S.map fU')), o12, some (.lst (F.map fU')), some (fU' r), o15, o16, o17] P) Qn Q := by
  have hrm : r.1 ≤ 200 ∧ r.2 ≤ 200 := by
    obtain ⟨f1, f2, f3, f4⟩ := every_mem.mp hr.mem
    have := h.m2
    exact ⟨by omega, by omega⟩
  have rr : fU' r = .tup [.int (r.1 : Int), .int (r.2 : Int)] := rfl
  have c1 : cutU [U.int (r.1 : Int), U.int (r.2 : Int)] none (some 1) = [.int (r.1 : Int)] := cut_take (by omega)
  have ma : mulB 2 (r.1 : Int) = true := mulB_l (by omega) (by omega)
  have mb : mulB 2 (r.2 : Int) = true := mulB_l (by omega) (by omega)
  have hle := w_least (n := n + 4) (P := P) (t := a) (l := b) h.b1 (by have := h.b2; omega)
  have x0 : ixU (.tup [U.int (r.1 : Int), U.int (r.2 : Int)]) (.int 0) = some (.int (r.1 : Int)) := fq0 r
  have x1 : ixU (.tup [U.int (r.1 : Int), U.int (r.2 : Int)]) (.int 1) = some (.int (r.2 : Int)) := fq1 r
  -- what is written
  have e15 : exU X.G X.W (calU X (n + 6)) (b__law_right_v52.getD 15 .never) [some (.pot k), some (fU' (a, b)), some (.int (m : Int)), o3, o4, o5, o6, o7, o8, some (fU' p), some (optU q), some (.lst (S.map fU')), o12, some (.lst (F.map fU')), some (fU' r), o15, o16, o17] P
      = some (.nx [some (.pot k), some (fU' (a, b)), some (.int (m : Int)), o3, o4, o5, o6, o7, o8, some (fU' p), some (optU q), some (.lst (S.map fU')), o12, some (.lst (F.map fU')), some (fU' r), some (.lst [fU' r, .lst [.int (r.1 : Int), .int (r.2 : Int)], .tup [.int (r.1 : Int)], .tup [.int (r.1 : Int), .int (r.2 : Int), .int 0], .tup [.int (r.2 : Int), .int (r.1 : Int)], .tup [.int (2 * (r.1 : Int)), .int (2 * (r.2 : Int))], fU' p, optU q, fU' (a, b), fU' (lowest a b), .non, .tup []]), o16, o17] P) := by
    show exU X.G X.W (calU X (n + 6)) (.asg (.one 15) (.lst [.var 14, .bi .lst [.var 14], .slc (.var 14) none (some (.lit (.int 1))), .op .add (.var 14) (.tup [.lit (.int 0)]), .rev (.var 14), .tup [.op .mul (.lit (.int 2)) (.ix (.var 14) (.lit (.int 0))), .op .mul (.lit (.int 2)) (.ix (.var 14) (.lit (.int 1)))], .var 9, .var 10, .var 1, .call 1043 [.ix (.var 1) (.lit (.int 0)), .ix (.var 1) (.lit (.int 1))], .lit .non, .tup []])) _ P = _
    rw [rr]
    simp [c1, ma, mb, size_eq, fq0, fq1, hle, x0, x1]
  refine Wv_go (ss := b__law_right_v52.drop 16) e15 ?_
  generalize hV : [fU' r, .lst [.int (r.1 : Int), .int (r.2 : Int)], .tup [.int (r.1 : Int)], .tup [.int (r.1 : Int), .int (r.2 : Int), .int 0], .tup [.int (r.2 : Int), .int (r.1 : Int)], .tup [.int (2 * (r.1 : Int)), .int (2 * (r.2 : Int))], fU' p, optU q, fU' (a, b), fU' (lowest a b), .non, .tup []] = V
  have hVl : V.length = 12 := by rw [← hV]; rfl
  have bi : ∀ {i : Int} {w d r : Nat}, -(10 ^ 9) ≤ i → i ≤ 10 ^ 9 → 62 ≤ w → 1 ≤ d → Bw w d r (.int i) := fun h1 h2 hw hd => bw_int (by omega) hw hd
  have hVf : ∀ v ∈ V, Fit v := fun v hv => by
    rw [← hV] at hv
    simp only [List.mem_cons, List.not_mem_nil, or_false] at hv
    have b1 : Bw 62 1 0 (.int (r.1 : Int)) := bi (by omega) (by omega) (by omega) (by omega)
    have b2 : Bw 62 1 0 (.int (r.2 : Int)) := bi (by omega) (by omega) (by omega) (by omega)
    have ha2 := h.a2
    have hb2 := h.b2
    have lw := lowest_le a b
    rcases hv with rfl | rfl | rfl | rfl | rfl | rfl | rfl | rfl | rfl | rfl | rfl | rfl
    · exact bw_fq (by omega) (by omega) (by omega)
    · exact ((Bl.cons (w := 128) b1 (Bl.cons (w := 64) b2 (Bl.nil (w := 0)) (by omega)) (by omega)).lst (Nat.le_refl _) (Nat.le_refl _) (Nat.le_refl _)).mono (by omega) (by omega) (by omega)
    · exact ((Bl.cons (w := 64) b1 (Bl.nil (w := 0)) (by omega)).tup (Nat.le_refl _) (Nat.le_refl _)).mono (by omega) (by omega) (by omega)
    · exact ((Bl.cons (w := 192) b1 (Bl.cons (w := 128) b2 (Bl.cons (w := 64) (bi (i := 0) (w := 62) (by omega) (by omega) (by omega) (by omega)) (Bl.nil (w := 0)) (by omega)) (by omega)) (by omega)).tup (Nat.le_refl _) (Nat.le_refl _)).mono (by omega) (by omega) (by omega)
    · exact ((Bl.cons (w := 128) b2 (Bl.cons (w := 64) b1 (Bl.nil (w := 0)) (by omega)) (by omega)).tup (Nat.le_refl _) (Nat.le_refl _)).mono (by omega) (by omega) (by omega)
    · exact ((Bl.cons (w := 128) (d := 1) (r := 0) (bi (i := 2 * (r.1 : Int)) (w := 62) (by omega) (by omega) (by omega) (by omega)) (Bl.cons (w := 64) (bi (i := 2 * (r.2 : Int)) (w := 62) (by omega) (by omega) (by omega) (by omega)) (Bl.nil (w := 0)) (by omega)) (by omega)).tup (Nat.le_refl _) (Nat.le_refl _)).mono (by omega) (by omega) (by omega)
    · exact bw_fq (by omega) (by omega) (by omega)
    · exact bw_opt (fun f hf => by have := hq f hf; omega) (by omega) (by omega)
    · exact bw_fq ⟨by show a ≤ 10 ^ 9; omega, by show b ≤ 10 ^ 9; omega⟩ (by omega) (by omega)
    · exact bw_fq ⟨by omega, by omega⟩ (by omega) (by omega)
    · exact bw_non (by omega) (by omega)
    · exact ((Bl.nil (w := 0) (d := 0) (r := 0)).tup (Nat.le_refl _) (Nat.le_refl _)).mono (by omega) (by omega) (by omega)
  -- what is drawn
  refine Wv_step (s := .asg (.one 15) (.op .add (.op .add (.op .add (.var 15) (e__law_right_v52_7)) (e__law_right_v52_8)) (.lst [.call 858 [.var 0]]))) (ss := b__law_right_v52.drop 17) ?_
  rw [x_asg, Wv_bnd, eu_op, Wu_bnd, eu_op, Wu_bnd, eu_op, Wu_bnd]
  simp only [eu_var, List.getElem?_cons_zero, List.getElem?_cons_succ, Wu_ok, Wu_bnd]
  have hS2 : S.map fU' ≠ [] := by simpa using hS0
  have r4 : itU .rng1 [.int 4] = some (rgU 0 4) := by rw [iu_rng1, rngB_of (by omega) (by omega) (by omega) (by omega)]; rfl
  have r4l : (rgU 0 4).length = 4 := rfl
  refine Wu_mono (lc_draw (A := Fit) (N := N) (K := 1) (k := k) (ds := [.int 4]) (xs := rgU 0 4) (by simp) r4 (by rw [r4l, size_eq]; omega) hpot (fun x hx j P' hj hpj => ⟨_, rfl, ?_⟩)) ?_
  · simp
    refine w_of has_lawc tk_ok (n := n + 4) hpj (by rw [r4l] at hj; omega) hS2 (by rw [List.length_map]; omega) fun y P'' hy h2 => ⟨?_, h2.mono (by omega)⟩
    obtain ⟨f, hf, rfl⟩ := List.mem_map.mp hy
    have := hS f hf
    exact bw_fq ⟨by omega, by omega⟩ (by omega) (by omega)
  rintro _ P1 ⟨ys1, rfl, l1, g1, hp1⟩
  rw [r4l] at l1 hp1
  have z1 : V.length + ys1.length ≤ sizeLine := by rw [size_eq]; omega
  simp only [ou_lst, Wu_lift, Oo_if, Oo_some]
  refine ⟨z1, ?_⟩
  have hplain : plainU 1 (fU' r) = true := plain_fq 0 r
  refine Wu_mono (lc_draw (A := Fit) (N := N + 4) (K := 12) (k := k) (ds := [.int 4]) (xs := rgU 0 4) (by simp) r4 (by rw [r4l, size_eq]; omega) (hp1.mono (by omega)) (fun x hx j P' hj hpj => ⟨_, rfl, ?_⟩)) ?_
  · simp
    rw [r4l] at hj
    refine w_bent has_lawc tk_ok 1 (fU' r) (n := n) (w := 132) hplain (by omega) (bw_fq (by omega) (by omega) (by omega)) (by omega) hpj (by omega) fun y P'' h2 hy => ⟨hy.mono (by omega) (by omega) (by omega), h2.mono (by omega)⟩
  rintro _ P2 ⟨ys2, rfl, l2, g2, hp2⟩
  rw [r4l] at l2 hp2
  have z2 : (V ++ ys1).length + ys2.length ≤ sizeLine := by rw [size_eq, List.length_append]; omega
  simp only [ou_lst, Wu_lift, Oo_if, Oo_some]
  refine ⟨z2, ?_⟩
  simp only [eu_lst, eus_cons, eus_nil, eu_call, eu_var, List.getElem?_cons_zero, List.getElem?_cons_succ, Wu_ok, Wu_bnd, bndV_ok]
  refine w_odd has_lawc tk_ok (n := n + 3) hp2 (by omega) fun x P3 hp3 hx => ?_
  have z3 : (V ++ ys1 ++ ys2).length + 1 ≤ sizeLine := by rw [size_eq, List.length_append, List.length_append]; omega
  simp only [Wu_ok, Wu_bnd, List.length_cons, List.length_nil, ou_lst, Wu_lift, Oo_if, Oo_some, su_one, Wv_map, Wu_if]
  refine ⟨by rw [size_eq]; omega, by simpa using z3, ?_⟩
  refine st17 h hn hr hF hFl (vs := V ++ ys1 ++ ys2 ++ [x]) (fun v hv => ?_) (by simp; omega) (kk P3 (hp3.mono (by omega)))
  rcases List.mem_append.mp hv with hv | hv
  · rcases List.mem_append.mp hv with hv | hv
    · rcases List.mem_append.mp hv with hv | hv
      · exact hVf v hv
      · exact g1 v hv
    · exact g2 v hv
  · rw [List.mem_singleton.mp hv]
    exact (Gd.bw hx).mono (by omega) (by omega) (by omega)
end
end K60

end
section
set_option Elab.async false
set_option linter.all false
set_option maxRecDepth 100000
set_option maxHeartbeats 1000000
namespace K60
open PySem L2 Mi Pv Pr
section
variable {n : Nat} {P : Ps} {N : Int} {k : Nat} {Qn : LocU → Ps → Prop} {Q : U → Ps → Prop} {a b m : Nat} {o3 o4 o5 o6 o7 o8 o9 o10 o11 o12 o13 o14 o15 o16 o17 : Option U}
/-- what is told, and what is as near -/
theorem st9 (h : Rt a b m) (hpot : Pot N k P) (hN : N ≤ 2 ^ 36)
    (kk : ∀ P', Pot (N + 60) k P' → Q (.bl true) P') : Wv (exUs X.G X.W (calU X (n + 6)) (b__law_right_v52.drop 9) [some (.pot k), some (fU' (a, b)), some (.int (m : Int)), some (.lst ((everyQ m).map fU')), o4, o5, o6, o7, o8, some (fU' (belowQ a b m)), some (optU (aboveQ a b m)), o11, o12, o13, o14, o15, o16, o17] P) Qn Q := by
  obtain ⟨r, hn, hr⟩ := near_is h
  have hlen := everyQ_len m
  have hlm : m * (m + 1) ≤ 200 * 201 := Nat.mul_le_mul h.m2 (by have := h.m2; omega)
  have hsl : (someQ m).length ≤ (everyQ m).length := List.length_filter_le _ _
  have hrs : r ∈ someQ m := some_mem.mpr ⟨hr.mem, hr.pos⟩
  obtain ⟨f0, l, hl⟩ : ∃ f0 l, someQ m = f0 :: l := by
    cases q : someQ m with
    | nil => rw [q] at hrs; cases hrs
    | cons f0 l => exact ⟨f0, l, rfl⟩
  have hsm : ∀ g ∈ f0 :: l, g.1 ≤ 1000 ∧ g.2 ≤ 1000 := fun g hg => some_small h.m2 (by rw [hl]; exact hg)
  -- some
  refine Wv_go (s := .asg (.one 11) e__law_right_v52_4) (ss := b__law_right_v52.drop 10) (by rw [x_asg, r_some h, bndO_ok, su_one]; rfl) ?_
  simp only [List.set_cons_succ, List.set_cons_zero]
  -- the first of them
  refine Wv_go (s := .asg (.one 12) (.ix (.var 11) (.lit (.int 0)))) (ss := b__law_right_v52.drop 11) (ρ1 := [some (.pot k), some (fU' (a, b)), some (.int (m : Int)), some (.lst ((everyQ m).map fU')), o4, o5, o6, o7, o8, some (fU' (belowQ a b m)), some (optU (aboveQ a b m)), some (.lst ((someQ m).map fU')), some (fU' f0), o13, o14, o15, o16, o17]) (P1 := P) (by
    rw [hl]
    simp) ?_
  obtain ⟨o7', e⟩ := r_best (n := n + 3) (P := P) (x0 := some (.pot k)) (o3 := some (.lst ((everyQ m).map fU'))) (o4 := o4) (o5 := o5) (o6 := o6) (o7 := o7) (o8 := o8) (o9 := some (fU' (belowQ a b m))) (o10 := some (optU (aboveQ a b m))) (o13 := o13) (o14 := o14) (o15 := o15) (o16 := o16) (o17 := o17) h hsm
  rw [← hl] at e
  refine Wv_go (s := s__law_right_v52_4) (ss := b__law_right_v52.drop 12) e ?_
  rw [hl]
  have hbm : ((f0 :: l).foldl (stepN a b) f0).1 ≤ 1000 ∧ ((f0 :: l).foldl (stepN a b) f0).2 ≤ 1000 := by
    have hp : ∀ g ∈ f0 :: l, 0 < g.2 := fun g hg => (every_mem.mp (some_mem.mp (hl ▸ hg)).1).2.1
    obtain ⟨c1, _, _⟩ := fold_near (a := a) h.b1 (f0 :: l) f0 (hp f0 List.mem_cons_self) hp
    rcases c1 with e | e
    · rw [e]; exact hsm f0 List.mem_cons_self
    · exact hsm _ e
  have hF := fun f => fine_mem h hl hr (f := f)
  rw [← hl] at hbm ⊢
  have e12 := r_fine (n := n + 4) (P := P) (x0 := some (.pot k)) (o3 := some (.lst ((everyQ m).map fU'))) (o4 := o4) (o5 := o5) (o6 := o6) (o7 := o7') (o8 := o8) (o9 := some (fU' (belowQ a b m))) (o10 := some (optU (aboveQ a b m))) (o13 := o13) (o14 := o14) (o15 := o15) (o16 := o16) (o17 := o17) h hbm
  refine Wv_go (s := .asg (.one 13) e__law_right_v52_5) (ss := b__law_right_v52.drop 13) (by rw [x_asg, e12, bndO_ok, su_one]; rfl) ?_
  simp only [List.set_cons_succ, List.set_cons_zero]
  have hl2 : ∀ f, f ∈ someQ m ↔ f ∈ f0 :: l := fun f => by rw [hl]
  rw [hl] at hF e12 hbm hrs ⊢
  generalize (f0 :: l).foldl (stepN a b) f0 = best at *
  have hFl : (fineQ a b m best).length ≤ 100000 := by
    have := List.length_filter_le (fun f => !lessQ (apartQ a b best) (apartQ a b f)) (someQ m)
    unfold fineQ
    omega
  generalize fineQ a b m best = F at *
  -- told
  have e13 := u_near_ratio (X := X) (n := n) (P := P) has_words hG1 hG2 has_cogs has_chances has_ratios hW h hn
  refine Wv_go (s := .asg (.one 14) (.call 1041 [.var 1, .var 2])) (ss := b__law_right_v52.drop 14) (ρ1 := [some (.pot k), some (fU' (a, b)), some (.int (m : Int)), some (.lst ((everyQ m).map fU')), o4, o5, o6, o7', o8, some (fU' (belowQ a b m)), some (optU (aboveQ a b m)), some (.lst ((f0 :: l).map fU')), some (fU' best), some (.lst (F.map fU')), some (fU' r), o15, o16, o17]) (P1 := P) (by simp [e13]) ?_
  have small : ∀ f ∈ F, f.1 ≤ 10 ^ 9 ∧ f.2 ≤ 10 ^ 9 := fun f hf => by
    have := hsm f ((hF f).mp hf).1
    exact ⟨by omega, by omega⟩
  have rp : ∀ {f : Fq}, f.1 ≤ 10 ^ 9 ∧ f.2 ≤ 10 ^ 9 → reprU (fU' f) = some (fU' f).toP.shown := fun hf => (Bw.rp (bw_fq (w := 132) (d := 2) (r := 0) hf (by omega) (by omega)) (by omega) (by omega) (by omega)).repr
  have hrF : r ∈ F := (hF r).mpr ⟨hrs, not_less.mpr (leQ.refl _)⟩
  have e6 : evU X.G (calU X (n + 6)) e__law_right_v52_6 [some (.pot k), some (fU' (a, b)), some (.int (m : Int)), some (.lst ((everyQ m).map fU')), o4, o5, o6, o7', o8, some (fU' (belowQ a b m)), some (optU (aboveQ a b m)), some (.lst ((f0 :: l).map fU')), some (fU' best), some (.lst (F.map fU')), some (fU' r), o15, o16, o17] P = some (.ok (.lst ((F.map fun f => (fU' f).toP.shown).map U.str)) P) := by
    rw [List.map_map]
    refine lc_all (xs := F) fU' (fun f => U.str (fU' f).toP.shown) (ds := [.lst (F.map fU')]) (by simp) rfl (fun f hf => by simp) (fun f hf => ?_) (by rw [size_eq]; omega)
    simp [rp (small f hf)]
  have ei := (cu_inS (x := (fU' r).toP.shown) (ys := F.map fun f => (fU' f).toP.shown)).2
  rw [decide_eq_true (List.mem_map_of_mem (f := fun f => (fU' f).toP.shown) hrF)] at ei
  have et : cmpU .notIn (fU' r) (.tup [fU' (belowQ a b m), optU (aboveQ a b m)]) = some false := by
    rw [(cu_in (x := fU' r) (ys := [fU' (belowQ a b m), optU (aboveQ a b m)]) (plain_fq 6 r) (by rw [List.all_cons, plain_fq 6, List.all_cons, plain_opt 6]; rfl)).2.2.1]
    have : fU' r ∈ [fU' (belowQ a b m), optU (aboveQ a b m)] := by
      rcases hr.side with e | e
      · rw [← e]; exact List.mem_cons_self
      · rw [e]; exact List.mem_cons_of_mem _ List.mem_cons_self
    rw [decide_eq_true this]
    rfl
  refine Wv_go (s := .ite (.or [.cmp .notIn (.bi .repr [.var 14]) (e__law_right_v52_6), .cmp .notIn (.var 14) (.tup [.var 9, .var 10])]) [.ret (.lit (.bl false))] []) (ss := b__law_right_v52.drop 15) (ρ1 := [some (.pot k), some (fU' (a, b)), some (.int (m : Int)), some (.lst ((everyQ m).map fU')), o4, o5, o6, o7', o8, some (fU' (belowQ a b m)), some (optU (aboveQ a b m)), some (.lst ((f0 :: l).map fU')), some (fU' best), some (.lst (F.map fU')), some (fU' r), o15, o16, o17]) (P1 := P) (by
    simp [rp (small r hrF), e6, ei, et, size_eq, -List.map_map, -List.map_cons]) ?_
  have hpb := belowQ_le (a := a) (b := b) h.m1
  have hm2 := h.m2
  refine st15 h hn hr (fun f => ?_) hFl hpot hN ⟨by omega, by omega⟩ (fun f hf => by have := aboveQ_le hf; omega) (S := f0 :: l) hsm (by simp) (by have := congrArg List.length hl; omega) kk
  rw [hl2]
  exact hF f
end
end K60

end
section
set_option Elab.async false
set_option linter.all false
set_option maxRecDepth 100000
set_option maxHeartbeats 1000000
namespace K60
open PySem L2 Mi Pv Pr
section
variable {n : Nat} {P : Ps} {N : Int} {k : Nat} {Qn : LocU → Ps → Prop} {Q : U → Ps → Prop} {a b m : Nat} {o3 o4 o5 o6 o7 o8 o9 o10 o11 o12 o13 o14 o15 o16 o17 : Option U}
theorem small_under (hm : m ≤ 200) {f : Fq} (h : f ∈ everyQ m) : f.1 ≤ 1000 ∧ f.2 ≤ 1000 := by
  obtain ⟨f1, f2, f3, f4⟩ := every_mem.mp h
  exact ⟨by omega, by omega⟩
/-- the neighbours are those of all fractions, and one apart -/
theorem st8 (h : Rt a b m) (hpot : Pot N k P) (hN : N ≤ 2 ^ 36) (kk : ∀ P', Pot (N + 60) k P' → Q (.bl true) P') :
    Wv (exUs X.G X.W (calU X (n + 6)) (b__law_right_v52.drop 8) [some (.pot k), some (fU' (a, b)), some (.int (m : Int)), some (.lst ((everyQ m).map fU')), o4, o5, o6, o7, o8, some (fU' (belowQ a b m)), some (optU (aboveQ a b m)), o11, o12, o13, o14, o15, o16, o17] P) Qn Q := by
  have hpb := belowQ_le (a := a) (b := b) h.m1
  have hm2 := h.m2
  have en := u_neighbours (X := X) (n := n) (P := P) has_words hG1 hG2 has_cogs has_chances has_ratios hW h
  have hB := below_is (a := a) (b := b) (m := m) h.b1 h.m1
  have rp : reprU (.tup [fU' (belowQ a b m), optU (aboveQ a b m)]) = some (U.tup [fU' (belowQ a b m), optU (aboveQ a b m)]).toP.shown := by
    refine (Bw.rp (w := 400) (d := 3) (r := 0) ((Bl.cons (w := 268) (d := 2) (bw_fq (w := 132) (by omega) (by omega) (by omega)) (Bl.cons (w := 134) (bw_opt (w := 132) (fun f hf => by have := aboveQ_le hf; omega) (by omega) (by omega)) (Bl.nil (w := 0)) (by omega)) (by omega)).tup (by omega) (by omega)) (by omega) (by omega) (by omega)).repr
  refine Wv_go (s := b__law_right_v52.getD 8 .never) (ss := b__law_right_v52.drop 9) (ρ1 := [some (.pot k), some (fU' (a, b)), some (.int (m : Int)), some (.lst ((everyQ m).map fU')), o4, o5, o6, o7, o8, some (fU' (belowQ a b m)), some (optU (aboveQ a b m)), o11, o12, o13, o14, o15, o16, o17]) (P1 := P) ?_ (st9 h hpot hN kk)
  show exU X.G X.W (calU X (n + 6)) (.ite (.or [.cmp .ne (.bi .repr [.call 1038 [.var 1, .var 2]]) (.bi .repr [.tup [.var 9, .var 10]]), .and [.cmp .notN (.var 10) (.lit .non), .cmp .ne (.var 9) (.var 10), .cmp .ne (.op .sub (.op .mul (.ix (.var 10) (.lit (.int 0))) (.ix (.var 9) (.lit (.int 1)))) (.op .mul (.ix (.var 9) (.lit (.int 0))) (.ix (.var 10) (.lit (.int 1))))) (.lit (.int 1))]]) [.ret (.lit (.bl false))] []) _ P = _
  cases q : aboveQ a b m with
  | none =>
    rw [q] at en rp
    have en' : calU X (n + 6) 1038 [fU' (a, b), .int (m : Int)] P = some (.ok (.tup [fU' (belowQ a b m), .non]) P) := en
    have rp' : reprU (.tup [fU' (belowQ a b m), .non]) = some (U.tup [fU' (belowQ a b m), .non]).toP.shown := rp
    simp [en', rp', size_eq, isNonU, optU]
  | some g =>
    rw [q] at en rp
    have hA := above_is h.b1 q
    have hg := aboveQ_le q
    have hnon : isNonU (fU' g) = false := rfl
    have ene : cmpU .ne (fU' (belowQ a b m)) (fU' g) = some (!decide (fU' (belowQ a b m) = fU' g)) := cu_ne (plain_fq 7 _) (plain_fq 7 _)
    have m1 : mulB (g.1 : Int) ((belowQ a b m).2 : Int) = true := mulB_l (by omega) (by omega)
    have m2 : mulB ((belowQ a b m).1 : Int) (g.2 : Int) = true := mulB_l (by omega) (by omega)
    have en' : calU X (n + 6) 1038 [fU' (a, b), .int (m : Int)] P = some (.ok (.tup [fU' (belowQ a b m), fU' g]) P) := en
    have rp' : reprU (.tup [fU' (belowQ a b m), fU' g]) = some (U.tup [fU' (belowQ a b m), fU' g]).toP.shown := rp
    show exU X.G X.W (calU X (n + 6)) _ [some (.pot k), some (fU' (a, b)), some (.int (m : Int)), some (.lst ((everyQ m).map fU')), o4, o5, o6, o7, o8, some (fU' (belowQ a b m)), some (fU' g), o11, o12, o13, o14, o15, o16, o17] P = some (.nx [some (.pot k), some (fU' (a, b)), some (.int (m : Int)), some (.lst ((everyQ m).map fU')), o4, o5, o6, o7, o8, some (fU' (belowQ a b m)), some (fU' g), o11, o12, o13, o14, o15, o16, o17] P)
    by_cases hne : belowQ a b m = g
    · have hne' : fU' (belowQ a b m) = fU' g := fU_inj.mpr hne
      rw [decide_eq_true hne'] at ene
      simp [en', rp', size_eq, hnon, ene]
    · have hne' : ¬ fU' (belowQ a b m) = fU' g := fun z => hne (fU_inj.mp z)
      have hd := one_apart h.b1 hB hA hne
      have hd' : (g.1 : Int) * ((belowQ a b m).2 : Int) - ((belowQ a b m).1 : Int) * (g.2 : Int) = 1 := by
        have := congrArg (fun n : Nat => (n : Int)) hd
        simp only [Int.natCast_add, Int.natCast_mul] at this
        omega
      rw [decide_eq_false hne'] at ene
      simp [en', rp', size_eq, hnon, ene, fq0, fq1, m1, m2, hd']
theorem w_right (hpot : Pot N k P) (hN : N ≤ 2 ^ 35) (kk : ∀ P', Pot (N + 70) k P' → Q (.bl true) P') : Wu (calU X (n + 7) 1047 [.pot k] P) Q := by
  refine Wu_call (F := f__law_right_v52) (by omega) (at__law_right_v52 has_law_k60) rfl ?_
  show Wv (exUs X.G X.W (calU X (n + 6)) b__law_right_v52 [some (.pot k), none, none, none, none, none, none, none, none, none, none, none, none, none, none, none, none, none] P) (fun _ P => Q .non P) Q
  -- the ratio, the bound
  refine Wv_step (s := .asg (.tup [1, 2]) (.tup [.call 1044 [.var 0], .op .add (.lit (.int 1)) (.call 0 [.var 0, .lit (.int 25)])])) (ss := b__law_right_v52.drop 1) ?_
  simp only [x_asg, Wv_bnd, eu_tup, eus_cons, eus_nil, eu_call, eu_var, eu_op, eu_int, Wu_bnd, Wu_ok, List.getElem?_cons_zero]
  refine w_ratio (n := n + 3) hpot (by omega) fun a b P1 a1 a2 b1 b2 hp1 => ?_
  refine w_take tk_ok (n := n + 5) hp1 (by omega) (by omega) (by omega) fun d P2 d0 d1 hp2 => ?_
  obtain ⟨d, rfl⟩ := Int.eq_ofNat_of_zero_le d0
  have h : Rt a b (d + 1) := ⟨a1, a2, b1, b2, by omega, by omega⟩
  simp only [ou_add, Wu_lift, Oo_some, Wu_if, List.length_cons, List.length_nil, su_tup, Wv_map]
  refine ⟨by rw [size_eq]; omega, ?_⟩
  rw [Wu_ok, su_tup, if_pos (by rfl), Oo_some]
  simp only [sa_cons, sa_nil, List.set_cons_succ, List.set_cons_zero]
  have ed : (1 : Int) + ((d : Nat) : Int) = ((d + 1 : Nat) : Int) := by omega
  rw [ed]
  have hpot2 : Pot (N + 4) k P2 := hp2.mono (by omega)
  generalize d + 1 = m at h ⊢
  -- every
  refine Wv_go (s := .asg (.one 3) (.lst [])) (ss := b__law_right_v52.drop 2) (P1 := P2) (ρ1 := [some (.pot k), some (fU' (a, b)), some (.int (m : Int)), some (.lst []), none, none, none, none, none, none, none, none, none, none, none, none, none, none]) (by simp [size_eq]) ?_
  obtain ⟨o4', e⟩ := r_every (n := n + 3) (P := P2) (x0 := some (.pot k)) (o4 := none) (o5 := none) (o6 := none) (o7 := none) (o8 := none) (o9 := none) (o10 := none) (o11 := none) (o12 := none) (o13 := none) (o14 := none) (o15 := none) (o16 := none) (o17 := none) h
  refine Wv_go (s := s__law_right_v52_1) (ss := b__law_right_v52.drop 3) e ?_
  -- under, over
  refine Wv_go (s := .asg (.one 6) e__law_right_v52_2) (ss := b__law_right_v52.drop 4) (by rw [x_asg, r_under h, bndO_ok, su_one]; rfl) ?_
  simp only [List.set_cons_succ, List.set_cons_zero]
  refine Wv_go (s := .asg (.one 8) e__law_right_v52_3) (ss := b__law_right_v52.drop 5) (by rw [x_asg, r_over h, bndO_ok, su_one]; rfl) ?_
  simp only [List.set_cons_succ, List.set_cons_zero]
  obtain ⟨f0, l, hl⟩ := under_cons a (b := b) (m := m) h.m1
  have hus : ∀ g ∈ f0 :: l, g.1 ≤ 1000 ∧ g.2 ≤ 1000 := fun g hg => small_under h.m2 (under_mem.mp (hl ▸ hg)).1
  have hbf := below_fold (a := a) h.b1 h.m1 hl
  have ens : ∀ l : List Fq, cmpU .ne (.lst (l.map fU')) (.lst []) = some (!decide (l = [])) := fun l => by
    rw [cu_ne (plain_fqs 6 l) (by rfl)]
    congr 2
    cases l <;> simp
  have fin := fun (o7 : Option U) => st8 (n := n) (Qn := fun _ P => Q .non P) (Q := Q) (o4 := o4') (o5 := none) (o6 := some (.lst ((underQ a b m).map fU'))) (o7 := o7) (o8 := some (.lst ((overQ a b m).map fU'))) (o11 := none) (o12 := none) (o13 := none) (o14 := none) (o15 := none) (o16 := none) (o17 := none) h hpot2 (by omega) fun P' hp => kk P' (hp.mono (by omega))
  cases hq : overQ a b m with
  | nil =>
    have ha := (above_none (a := a) (b := b) (m := m) h.b1).mpr hq
    rw [hq, ha] at fin
    rw [hl] at fin ⊢
    refine Wv_go (s := .asg (.tup [9, 10]) (.tup [.ix (.var 6) (.lit (.int 0)), .ite (.cmp .ne (.var 8) (.lst [])) (.ix (.var 8) (.lit (.int 0))) (.lit .non)])) (ss := b__law_right_v52.drop 6) (P1 := P2) (ρ1 := [some (.pot k), some (fU' (a, b)), some (.int (m : Int)), some (.lst ((everyQ m).map fU')), o4', none, some (.lst ((f0 :: l).map fU')), none, some (.lst (([] : List Fq).map fU')), some (fU' f0), some .non, none, none, none, none, none, none, none]) (by
      have := ens []
      simp [size_eq] at this ⊢
      simp [this]) ?_
    obtain ⟨o7', e⟩ := r_below (n := n + 3) (P := P2) (a := a) (b := b) (m := m) (x0 := some (.pot k)) (o3 := some (.lst ((everyQ m).map fU'))) (o4 := o4') (o5 := none) (o7 := none) (o8 := some (.lst (([] : List Fq).map fU'))) (o10 := some .non) (o11 := none) (o12 := none) (o13 := none) (o14 := none) (o15 := none) (o16 := none) (o17 := none) hus
    rw [hbf] at e
    refine Wv_go (s := s__law_right_v52_2) (ss := b__law_right_v52.drop 7) e ?_
    refine Wv_go (s := s__law_right_v52_3) (ss := b__law_right_v52.drop 8) (P1 := P2) (ρ1 := [some (.pot k), some (fU' (a, b)), some (.int (m : Int)), some (.lst ((everyQ m).map fU')), o4', none, some (.lst ((f0 :: l).map fU')), o7', some (.lst (([] : List Fq).map fU')), some (fU' (belowQ a b m)), some .non, none, none, none, none, none, none, none]) (by
      show exU _ _ _ (.for_ _ _ _ _) _ _ = _
      rw [x_for]
      simp
      rfl) (fin o7')
  | cons g0 l2 =>
    have ha := above_fold (a := a) (b := b) (m := m) h.b1 hq
    have hos : ∀ g ∈ g0 :: l2, g.1 ≤ 1000 ∧ g.2 ≤ 1000 := fun g hg => small_under h.m2 (over_mem.mp (hq ▸ hg)).1
    rw [hq, ha] at fin
    rw [hl] at fin ⊢
    refine Wv_go (s := .asg (.tup [9, 10]) (.tup [.ix (.var 6) (.lit (.int 0)), .ite (.cmp .ne (.var 8) (.lst [])) (.ix (.var 8) (.lit (.int 0))) (.lit .non)])) (ss := b__law_right_v52.drop 6) (P1 := P2) (ρ1 := [some (.pot k), some (fU' (a, b)), some (.int (m : Int)), some (.lst ((everyQ m).map fU')), o4', none, some (.lst ((f0 :: l).map fU')), none, some (.lst ((g0 :: l2).map fU')), some (fU' f0), some (fU' g0), none, none, none, none, none, none, none]) (by
      have := ens (g0 :: l2)
      simp [size_eq] at this ⊢
      simp [this]) ?_
    obtain ⟨o7', e⟩ := r_below (n := n + 3) (P := P2) (a := a) (b := b) (m := m) (x0 := some (.pot k)) (o3 := some (.lst ((everyQ m).map fU'))) (o4 := o4') (o5 := none) (o7 := none) (o8 := some (.lst ((g0 :: l2).map fU'))) (o10 := some (fU' g0)) (o11 := none) (o12 := none) (o13 := none) (o14 := none) (o15 := none) (o16 := none) (o17 := none) hus
    rw [hbf] at e
    refine Wv_go (s := s__law_right_v52_2) (ss := b__law_right_v52.drop 7) e ?_
    obtain ⟨o7'', e⟩ := r_above (n := n + 3) (P := P2) (a := a) (b := b) (m := m) (x0 := some (.pot k)) (o3 := some (.lst ((everyQ m).map fU'))) (o4 := o4') (o5 := none) (o6 := some (.lst ((f0 :: l).map fU'))) (o7 := o7') (o9 := some (fU' (belowQ a b m))) (o11 := none) (o12 := none) (o13 := none) (o14 := none) (o15 := none) (o16 := none) (o17 := none) hos
    exact Wv_go (s := s__law_right_v52_3) (ss := b__law_right_v52.drop 8) e (fin o7'')
end
end K60

end
section
set_option Elab.async false
set_option linter.all false
set_option maxRecDepth 100000
set_option maxHeartbeats 1000000
namespace K60
open PySem L2 Mi Pv Pr
section
variable {n : Nat} {P : Ps} {N : Int} {k : Nat} {Q : U → Ps → Prop}
theorem w_great (hpot : Pot N k P) (hN : N ≤ 2 ^ 35) (kk : ∀ P', Pot (N + 4) k P' → Q (.bl true) P') : Wu (calU X (n + 7) 1048 [.pot k] P) Q := by
  refine Wu_call (F := f__law_is_great_right_v2) (by omega) (at__law_is_great_right_v2 has_law_k60) rfl ?_
  show Wv (exUs X.G X.W (calU X (n + 6)) b__law_is_great_right_v2 [some (.pot k), none, none, none, none, none, none] P) (fun _ P => Q .non P) Q
  refine Wv_step (s := .asg (.tup [1, 2]) (.tup [.call 1044 [.var 0], .op .add (.lit (.int 100)) (.call 0 [.var 0, .lit (.int 101)])])) (ss := b__law_is_great_right_v2.drop 1) ?_
  simp only [x_asg, Wv_bnd, eu_tup, eus_cons, eus_nil, eu_call, eu_var, eu_op, eu_int, Wu_bnd, Wu_ok, List.getElem?_cons_zero]
  refine w_ratio (n := n + 3) hpot (by omega) fun a b P1 a1 a2 b1 b2 hp1 => ?_
  refine w_take tk_ok (n := n + 5) hp1 (by omega) (by omega) (by omega) fun d P2 d0 d1 hp2 => ?_
  obtain ⟨d, rfl⟩ := Int.eq_ofNat_of_zero_le d0
  have h : Rt a b (d + 100) := ⟨a1, a2, b1, b2, by omega, by omega⟩
  simp only [ou_add, Wu_lift, Oo_some, Wu_if, List.length_cons, List.length_nil, su_tup, Wv_map]
  refine ⟨by rw [size_eq]; omega, ?_⟩
  rw [Wu_ok, su_tup, if_pos (by rfl), Oo_some]
  simp only [sa_cons, sa_nil, List.set_cons_succ, List.set_cons_zero]
  have ed : (100 : Int) + ((d : Nat) : Int) = ((d + 100 : Nat) : Int) := by omega
  rw [ed]
  have hpot2 : Pot (N + 4) k P2 := hp2.mono (by omega)
  generalize d + 100 = m at h ⊢
  have hm2 := h.m2
  have hm1 := h.m1
  have hpb := belowQ_le (a := a) (b := b) h.m1
  have en := u_neighbours (X := X) (n := n) (P := P2) has_words hG1 hG2 has_cogs has_chances has_ratios hW h
  have hB := below_is (a := a) (b := b) (m := m) h.b1 h.m1
  refine Wv_go (s := .asg (.tup [3, 4]) (.call 1038 [.var 1, .var 2])) (ss := b__law_is_great_right_v2.drop 2) (P1 := P2) (ρ1 := [some (.pot k), some (fU' (a, b)), some (.int (m : Int)), some (fU' (belowQ a b m)), some (optU (aboveQ a b m)), none, none]) (by simp [en]) ?_
  -- where they lie
  have m1 : mulB ((belowQ a b m).1 : Int) (b : Int) = true := mulB_l (by omega) (by omega)
  have m2 : mulB (a : Int) ((belowQ a b m).2 : Int) = true := mulB_l (by omega) (by omega)
  have h1 : ¬ (a : Int) * ((belowQ a b m).2 : Int) < ((belowQ a b m).1 : Int) * (b : Int) := by
    have : (belowQ a b m).1 * b ≤ a * (belowQ a b m).2 := hB.le
    rw [← Int.natCast_mul, ← Int.natCast_mul]
    omega
  have loop : ∃ o5 o6, exU X.G X.W (calU X (n + 6)) s__law_is_great_right_v2_1 [some (.pot k), some (fU' (a, b)), some (.int (m : Int)), some (fU' (belowQ a b m)), some (optU (aboveQ a b m)), none, none] P2 = some (.nx [some (.pot k), some (fU' (a, b)), some (.int (m : Int)), some (fU' (belowQ a b m)), some (optU (aboveQ a b m)), o5, o6] P2) := by
    have hb : rngB 1 ((m : Int) + 1) = true := rngB_of (by omega) (by omega) (by omega) (by omega)
    have key := x_for_inv (G := X.G) (cal := calU X (n + 6)) (W := X.W) (P := P2) (t := .one 5) (k := .rng2) (its := [.lit (.int 1), .op .add (.var 2) (.lit (.int 1))]) (body := l__law_is_great_right_v2_1) (ρ := [some (.pot k), some (fU' (a, b)), some (.int (m : Int)), some (fU' (belowQ a b m)), some (optU (aboveQ a b m)), none, none])
      (fun (i : Nat) => U.int ((i + 1 : Nat) : Int)) (fun rest ρ => (∀ i ∈ rest, i < m) ∧ ∃ o5 o6, ρ = [some (.pot k), some (fU' (a, b)), some (.int (m : Int)), some (fU' (belowQ a b m)), some (optU (aboveQ a b m)), o5, o6]) (List.range m) (ds := [.int 1, .int ((m : Int) + 1)]) (by simp) (by rw [iu_rng2, hb, if_pos rfl, rg1]) ⟨fun i hi => List.mem_range.mp hi, none, none, rfl⟩ (by
        rintro i rest ρ ⟨hi, o5, o6, rfl⟩
        have him := hi i List.mem_cons_self
        have g1 : mulB (a : Int) ((i : Int) + 1) = true := mulB_l (by omega) (by omega)
        have f1 : fdB (b : Int) = true := fdB_p (by omega) (by omega)
        have e1 : (if (a : Int) * ((i : Int) + 1) / (b : Int) < (m : Int) then (a : Int) * ((i : Int) + 1) / (b : Int) else (m : Int)) = ((min m (a * (i + 1) / b) : Nat) : Int) := by
          have e1 : (a : Int) * ((i : Int) + 1) / (b : Int) = ((a * (i + 1) / b : Nat) : Int) := by
            rw [Int.natCast_ediv, Int.natCast_mul]
            rfl
          rw [e1]
          split <;> omega
        have hmin : min m (a * (i + 1) / b) ≤ m := Nat.min_le_left _ _
        have g3 : mulB ((belowQ a b m).1 : Int) ((i : Int) + 1) = true := mulB_l (by omega) (by omega)
        -- it is no greater than what lies below
        have hle : min m (a * (i + 1) / b) * (belowQ a b m).2 ≤ (belowQ a b m).1 * (i + 1) := by
          obtain ⟨l1, l2⟩ := lowest_le (min m (a * (i + 1) / b)) (i + 1)
          obtain ⟨q1, q2, q3, q4⟩ := lowest_eq (t := min m (a * (i + 1) / b)) (l := i + 1) (by omega)
          have hmem : lowest (min m (a * (i + 1) / b)) (i + 1) ∈ everyQ m := every_mem.mpr ⟨Nat.le_trans l1 hmin, q4, Nat.le_trans l2 (by omega), q3⟩
          have hab : leQ (min m (a * (i + 1) / b), i + 1) (a, b) := by
            show min m (a * (i + 1) / b) * b ≤ a * (i + 1)
            exact Nat.le_trans (Nat.mul_le_mul_right _ (Nat.min_le_right _ _)) (Nat.div_mul_le_self _ _)
          exact leQ.trans q4 q1 (hB.top _ hmem (leQ.trans (by show 0 < i + 1; omega) q2 hab))
        generalize min m (a * (i + 1) / b) = t at e1 hmin hle
        have g2 : mulB (t : Int) ((belowQ a b m).2 : Int) = true := mulB_l (by omega) (by omega)
        have hnl : ¬ ((belowQ a b m).1 : Int) * ((i : Int) + 1) < (t : Int) * ((belowQ a b m).2 : Int) := by
          have e2 : ((belowQ a b m).1 : Int) * ((i : Int) + 1) = (((belowQ a b m).1 * (i + 1) : Nat) : Int) := by rw [Int.natCast_mul]; rfl
          rw [e2, ← Int.natCast_mul]
          omega
        refine ⟨_, [some (.pot k), some (fU' (a, b)), some (.int (m : Int)), some (fU' (belowQ a b m)), some (optU (aboveQ a b m)), some (.int ((i + 1 : Nat) : Int)), some (.int (t : Int))], rfl, ?_, fun j hj => hi j (List.mem_cons_of_mem _ hj), _, _, rfl⟩
        simp [l__law_is_great_right_v2_1, fq0, fq1, g1, f1, e1, g2, g3, hnl])
    obtain ⟨ρ', e, _, o5, o6, rfl⟩ := key
    exact ⟨o5, o6, e⟩
  obtain ⟨o5, o6, el⟩ := loop
  have fin := kk P2 hpot2
  cases q : aboveQ a b m with
  | none =>
    rw [q] at el
    have el' : exU X.G X.W (calU X (n + 6)) s__law_is_great_right_v2_1 [some (.pot k), some (fU' (a, b)), some (.int (m : Int)), some (fU' (belowQ a b m)), some .non, none, none] P2 = some (.nx [some (.pot k), some (fU' (a, b)), some (.int (m : Int)), some (fU' (belowQ a b m)), some .non, o5, o6] P2) := el
    show Wv (exUs X.G X.W (calU X (n + 6)) (b__law_is_great_right_v2.drop 2) [some (.pot k), some (fU' (a, b)), some (.int (m : Int)), some (fU' (belowQ a b m)), some .non, none, none] P2) _ _
    simp [b__law_is_great_right_v2, fq0, fq1, m1, m2, h1, isNonU, el']
    exact fin
  | some g =>
    have hA := above_is h.b1 q
    have hg := aboveQ_le q
    have hnon : isNonU (fU' g) = false := rfl
    rw [q] at el
    have el' : exU X.G X.W (calU X (n + 6)) s__law_is_great_right_v2_1 [some (.pot k), some (fU' (a, b)), some (.int (m : Int)), some (fU' (belowQ a b m)), some (fU' g), none, none] P2 = some (.nx [some (.pot k), some (fU' (a, b)), some (.int (m : Int)), some (fU' (belowQ a b m)), some (fU' g), o5, o6] P2) := el
    have m3 : mulB (g.1 : Int) (b : Int) = true := mulB_l (by omega) (by omega)
    have m4 : mulB (a : Int) (g.2 : Int) = true := mulB_l (by omega) (by omega)
    have m5 : mulB (g.1 : Int) ((belowQ a b m).2 : Int) = true := mulB_l (by omega) (by omega)
    have m6 : mulB ((belowQ a b m).1 : Int) (g.2 : Int) = true := mulB_l (by omega) (by omega)
    have h2 : ¬ (g.1 : Int) * (b : Int) < (a : Int) * (g.2 : Int) := by
      have : a * g.2 ≤ g.1 * b := hA.le
      rw [← Int.natCast_mul, ← Int.natCast_mul]
      omega
    have ene : cmpU .eq (fU' g) (fU' (belowQ a b m)) = some (decide (fU' g = fU' (belowQ a b m))) := cu_eq (plain_fq 7 _) (plain_fq 7 _)
    show Wv (exUs X.G X.W (calU X (n + 6)) (b__law_is_great_right_v2.drop 2) [some (.pot k), some (fU' (a, b)), some (.int (m : Int)), some (fU' (belowQ a b m)), some (fU' g), none, none] P2) _ _
    by_cases hne : belowQ a b m = g
    · rw [decide_eq_true (fU_inj.mpr hne.symm)] at ene
      simp [b__law_is_great_right_v2, fq0, fq1, m1, m2, h1, hnon, m3, m4, h2, el', ene]
      exact fin
    · rw [decide_eq_false (fun z => hne (fU_inj.mp z).symm)] at ene
      have hd := one_apart h.b1 hB hA hne
      have hd' : (g.1 : Int) * ((belowQ a b m).2 : Int) - ((belowQ a b m).1 : Int) * (g.2 : Int) = 1 := by
        have := congrArg (fun n : Nat => (n : Int)) hd
        simp only [Int.natCast_add, Int.natCast_mul] at this
        omega
      simp [b__law_is_great_right_v2, fq0, fq1, m1, m2, h1, hnon, m3, m4, m5, m6, h2, el', ene, hd']
      exact fin
/-- the pot that a place makes -/
theorem w_pot {ns : List Int} {p : Int} (h0 : 0 ≤ p) (h1 : p < 100) (kk : ∀ P', Pot 0 P.length P' → Q (.pot P.length) P') : Wu (calU X (n + 1) 1 [.frz (ns.map .int), .int p] P) Q := by
  have e : calU X (n + 1) 1 [.frz (ns.map .int), .int p] P = some (.ok (.pot P.length) (P ++ [potF 68917 7103 1153 (cellF (g1 1000289 5623 853) ns p) p])) := by
    show (intsU (ns.map U.int)).bind (fun is => (X.pot is p).map fun s => Rv.ok (U.pot P.length) (P ++ [s])) = _
    rw [intsU_map]
    show (potX 68917 7103 1153 (g1 1000289 5623 853) ns p).map _ = _
    unfold potX
    rw [if_pos ⟨h0, h1⟩]
    rfl
  rw [e, Wu_ok]
  exact kk _ ⟨potF 68917 7103 1153 (cellF (g1 1000289 5623 853) ns p) p, by simp, potF_ok _ _ _ _ _⟩
theorem law_val' {ns : List Int} (hl : ns.length ≤ 63) : Wu (calU X (n + 9) 1049 [.frz (ns.map .int)] P) fun u _ => u = .bl true := by
  refine Wu_call (F := f_law_v60) (by omega) (at_law_v60 has_law_k60) rfl ?_
  show Wv (exUs X.G X.W (calU X (n + 8)) b_law_v60 [some (.frz (ns.map .int)), none, none, none] P) _ _
  obtain ⟨c, c1, c2, ec⟩ := w_cells (X := X) (n := n + 7) (P := P) has_lawc hl
  refine Wv_step (s := .for_ (.one 1) .seq [.call 262 [.var 0, .lit (.int 3)]] l_law_v60_1) (ss := b_law_v60.drop 1) ?_
  rw [x_for]
  simp only [eus_cons, eus_nil, eu_call, eu_var, eu_int, bndV_ok, List.getElem?_cons_zero, ec, bndO_ok, it_seqL, Option.bind_some]
  refine Wv_for (fun rest ρ P' => (∀ x ∈ rest, ∃ i, x = .int i ∧ 0 ≤ i ∧ i < 3) ∧ ∃ o1 o2 o3, ρ = [some (.frz (ns.map .int)), o1, o2, o3]) ?_ ?_ _ _ _ ⟨fun x hx => ?_, none, none, none, rfl⟩
  · rintro x rest ρ P1 ⟨hx, o1, o2, o3, rfl⟩
    obtain ⟨i, rfl, i0, i1⟩ := hx x List.mem_cons_self
    refine ⟨_, rfl, ?_⟩
    simp only [List.set_cons_succ, List.set_cons_zero]
    refine Wv_step (s := .asg (.one 2) (.call 1 [.var 0, .var 1])) (ss := l_law_v60_1.drop 1) ?_
    simp only [x_asg, Wv_bnd, eu_call, eus_cons, eus_nil, eu_var, List.getElem?_cons_zero, List.getElem?_cons_succ, Wu_bnd, Wu_ok]
    refine w_pot (n := n + 7) i0 (by omega) fun P2 hp2 => ?_
    simp only [su_one, Wv_map, Oo_some, List.set_cons_succ, List.set_cons_zero]
    generalize P1.length = k at hp2 ⊢
    refine Wv_step (s := .ite (.or [.not (.bi .all [e_law_v60_1]), .not (.bi .all [e_law_v60_2])]) [.ret (.lit (.bl false))] []) (ss := []) ?_
    rw [x_ite, Wv_ite, eu_or, euo_more]
    simp only [Wu_tst, Wu_bnd, eu_not, eu_bi, eus_cons, eus_nil, Wu_ok]
    have r4 : itU .rng1 [.int 4] = some (rgU 0 4) := by rw [iu_rng1, rngB_of (by omega) (by omega) (by omega) (by omega)]; rfl
    have r4l : (rgU 0 4).length = 4 := rfl
    have r3 : itU .rng1 [.int 3] = some (rgU 0 3) := by rw [iu_rng1, rngB_of (by omega) (by omega) (by omega) (by omega)]; rfl
    have r3l : (rgU 0 3).length = 3 := rfl
    refine Wu_mono (lc_draw (A := fun d => d = .bl true) (N := 0) (K := 70) (k := k) (ds := [.int 4]) (xs := rgU 0 4) (by simp) r4 (by rw [r4l, size_eq]; omega) hp2 (fun x hx j P' hj hpj => ⟨_, rfl, ?_⟩)) ?_
    · rw [r4l] at hj
      simp
      exact w_right (n := n + 1) hpj (by omega) fun P'' hp => ⟨rfl, hp.mono (by omega)⟩
    rintro _ P3 ⟨ys, rfl, l1, g1, hp3⟩
    rw [all_bl g1]
    simp
    refine Wu_mono (lc_draw (A := fun d => d = .bl true) (N := 280) (K := 4) (k := k) (ds := [.int 3]) (xs := rgU 0 3) (by simp) r3 (by rw [r3l, size_eq]; omega) (hp3.mono (by rw [r4l]; omega)) (fun x hx j P' hj hpj => ⟨_, rfl, ?_⟩)) ?_
    · rw [r3l] at hj
      simp
      exact w_great (n := n + 1) hpj (by omega) fun P'' hp => ⟨rfl, hp.mono (by omega)⟩
    rintro _ P4 ⟨ys2, rfl, l2, g2, hp4⟩
    rw [all_bl g2]
    simp
    exact fun x hx' => hx x (List.mem_cons_of_mem _ hx')
  · rintro ρ P1 ⟨_, o1, o2, o3, rfl⟩
    have h : Rt 355 113 10 := ⟨by omega, by omega, by omega, by omega, by omega, by omega⟩
    have en := u_neighbours (X := X) (n := n + 2) (P := P1) has_words hG1 hG2 has_cogs has_chances has_ratios hW h
    have e1 : belowQ 355 113 10 = (3, 1) := by decide +kernel
    have e2 : aboveQ 355 113 10 = some (10, 3) := by decide +kernel
    rw [e1, e2] at en
    have en' : calU X (n + 8) 1038 [.tup [.int 355, .int 113], .int 10] P1 = some (.ok (.tup [.tup [.int 3, .int 1], .tup [.int 10, .int 3]]) P1) := en
    have ee : cmpU .eq (.tup [.tup [.int 3, .int 1], .tup [.int 10, .int 3]]) (.tup [.tup [.int 3, .int 1], .tup [.int 10, .int 3]]) = some true := by
      rw [cu_eq (by rfl) (by rfl), decide_eq_true rfl]
    show Wv (exUs X.G X.W (calU X (n + 8)) [.ret (.cmp .eq (.call 1038 [.tup [.lit (.int 355), .lit (.int 113)], .lit (.int 10)]) (.tup [.tup [.lit (.int 3), .lit (.int 1)], .tup [.lit (.int 10), .lit (.int 3)]]))] _ P1) _ _
    simp [size_eq, en', ee]
  · unfold rgU at hx
    obtain ⟨t, ht, rfl⟩ := List.mem_map.mp hx
    have := List.mem_range.mp ht
    exact ⟨_, rfl, by omega, by omega⟩
end
end K60

end
set_option Elab.async false
set_option linter.all false
set_option maxRecDepth 100000
set_option maxHeartbeats 0
open PySem PySem.W PySem.Calls PyProof.Rows
theorem PySem.Challenge.cw_neverrunaway_k60_whole_ratios_told_by_fe_holds : PySem.Challenge.rw_neverrunaway_k60_whole_ratios_told_by_fe.Holds := by
  w_on; o_law
  refine HandSHeadRun.head_any (r := OpenLaw.row PySem.Challenge.rw_neverrunaway_k60_whole_ratios_told_by_fe) (q := view (OpenLaw.row PySem.Challenge.rw_neverrunaway_k60_whole_ratios_told_by_fe).prog [39]) (H := K60.hk) (ob := K60.ob) (M := 3000) (loose := K60.names) (d := HandSHeadRun.topDef (OpenLaw.row PySem.Challenge.rw_neverrunaway_k60_whole_ratios_told_by_fe).prog 39) (kwd := []) K60.ob_eq
    (by kernel_rfl) (fun s => by kernel_rfl) K60.run (by kernel_rfl) (by kernel_rfl) (by kernel_rfl) (by rfl) (by first | assumption | decide +kernel) (by decide +kernel) ⟨rfl, rfl, rfl, rfl, rfl, by decide +kernel⟩ ?hw ?hc
  case hw => w_witness2
  case hc =>
    refine Mi.law_end (l := PySem.Challenge.rw_neverrunaway_k60_whole_ratios_told_by_fe) (fn := K60.fn) (Gn := K60.Gn) (T := K60.T) (NP := K60.NP) (W0 := K60.W0) (k := 8) (L := 29) (n := 63) (x := "script") (dl := K60.d_law) (by rfl) K60.chk K60.binds rfl (by kernel_rfl)
      (fun K a fd F s u => (L2.FunD.bindsA (ps := ["script"]) F fun _ _ _ _ _ _ us hl => match us, hl with | [_], _ => rfl) s [u] rfl) (fun p hp => by cases hp; rfl) rfl (by decide) (by kernel_rfl) ⟨rfl, by decide, by decide⟩ (by rfl) ?_
    intro ns hl
    obtain ⟨d, P, e, h⟩ := K60.law_val' (n := 0) (P := []) hl
    subst h
    exact Pv.law_val K60.tok (by rfl) e

