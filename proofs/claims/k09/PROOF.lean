import PyProof.Rows.All
import Wide.All
import OpenK.AllK
import Wide.FinOn
import HandS.ForMost
import HandS.TupAny
import HandS.Deep
import HandS.IsInst
import HandS.RevRange
import HandS.Flow
import PySem.Challenge.RW_worldsay_k09_signs
set_option Elab.async false
set_option linter.all false
set_option maxRecDepth 100000
set_option maxHeartbeats 4000000
namespace Ds
open PySem
inductive D where
  | non | bl (b : Bool) | int (i : Int) | str (x : List Nat)
  | tup (xs : List D) | lst (xs : List D) | dct (ks vs : List D) | fz (xs : List D) | ref (n : Nat)
deriving Inhabited
abbrev Sto := List D
inductive R where | val (d : D) | new (d : D) | brw (d : D)
def R.any : R → D | .val d => d | .new d => d | .brw d => d
def R.pur : R → Option D | .val d => some d | .new d => some d | .brw _ => none
def R.out : R → R | .brw d => .new d | r => r
abbrev Env := List (Option R)
def look (S : Sto) : D → D
  | .ref n => S.getD n .non
  | d => d
@[simp] theorem look_non {S} : look S .non = .non := rfl
@[simp] theorem look_bl {S b} : look S (.bl b) = .bl b := rfl
@[simp] theorem look_int {S b} : look S (.int b) = .int b := rfl
@[simp] theorem look_str {S b} : look S (.str b) = .str b := rfl
@[simp] theorem look_tup {S b} : look S (.tup b) = .tup b := rfl
@[simp] theorem look_lst {S b} : look S (.lst b) = .lst b := rfl
@[simp] theorem look_fz {S b} : look S (.fz b) = .fz b := rfl
@[simp] theorem look_dct {S b c} : look S (.dct b c) = .dct b c := rfl
inductive Bop where | add | sub | mul | mod | fdv | pow | shr | shl
deriving DecidableEq
inductive Cop where | eq | ne | lt | le | gt | ge | is | isn | inn | nin
deriving DecidableEq
inductive Bi where | len | all | any | tuple | list | sum
deriving DecidableEq
inductive Ty where | int | bool | str | tuple | list | dict
deriving DecidableEq
inductive Mu where | append | extend | pop | clear | reverse | set
deriving DecidableEq
inductive Tg where | nm (i : Nat) | tup (is : List Nat)
deriving DecidableEq
mutual
inductive Ex where
  | lit (d : D) | nm (i : Nat)
  | bin (op : Bop) (a b : Ex) | neg (a : Ex) | not (a : Ex)
  | cmp (op : Cop) (a b : Ex) | chn (o1 o2 : Cop) (a b c : Ex)
  | and (a b : Ex) | or (a b : Ex) | ite (c a b : Ex)
  | tup (es : Exs) | lst (es : Exs)
  | ix (a b : Ex) | sl (a : Ex) (lo hi : Ox)
  | call (f : Nat) (es : Exs) | bi (b : Bi) (a : Ex) | isi (a : Ex) (ts : List Ty)
  | lc (e : Ex) (own : List Nat) (t : Tg) (it : Iy) (c : Ox)
inductive Exs where | nil | cons (e : Ex) (es : Exs)
inductive Ox where | no | yes (e : Ex)
inductive Iy where | seq (e : Ex) | rng1 (a : Ex) | rng2 (a b : Ex) | rng3 (a b c : Ex)
end
mutual
inductive Sm where
  | ex (e : Ex) | asg (t : Tg) (e : Ex)
  | new (i : Nat) (e : Ex)
  | mut (t : Option Tg) (m : Mu) (o : Ex) (es : Exs)
  | six (o k e : Ex)
  | iff (c : Ex) (a b : Sms) | fr (t : Tg) (it : Iy) (b : Sms) | whl (c : Ex) (b : Sms)
  | ret (e : Ex) | retN | pas | brk | cnt | frz (i : Nat)
inductive Sms where | nil | cons (s : Sm) (r : Sms)
end
inductive Out where | nx (ρ : Env) | rt (r : R) | bk (ρ : Env) | ct (ρ : Env)
mutual
def toPy : D → Option PyData
  | .non => some .none
  | .bl b => some (.bool b)
  | .int i => some (.int i)
  | .str x => some (.str ⟨x.toArray⟩)
  | .tup xs => (toPys xs).map .tuple
  | .lst xs => (toPys xs).map .list
  | .dct _ _ => none
  | .fz _ => none
  | .ref _ => none
def toPys : List D → Option (List PyData)
  | [] => some []
  | x :: xs => match toPy x, toPys xs with
    | some y, some ys => some (y :: ys)
    | _, _ => none
end
mutual
def okD : Nat → D → Bool
  | _, .non => true
  | _, .bl _ => true
  | _, .int _ => true
  | _, .str x => x.all (fun c => decide (c < 0x110000))
  | n + 1, .tup xs => okDs n xs
  | n + 1, .lst xs => okDs n xs
  | _, _ => false
def okDs : Nat → List D → Bool
  | _, [] => true
  | n, x :: xs => okD n x && okDs n xs
end
mutual
def eqD : D → D → Bool
  | .non, .non => true
  | .bl a, .bl b => a == b
  | .bl a, .int j => (if a then 1 else 0) == j
  | .int i, .bl b => i == (if b then 1 else 0)
  | .int i, .int j => i == j
  | .str x, .str y => x == y
  | .lst xs, .lst ys => eqDs xs ys
  | .tup xs, .tup ys => eqDs xs ys
  | _, _ => false
def eqDs : List D → List D → Bool
  | [], [] => true
  | x :: xs, y :: ys => eqD x y && eqDs xs ys
  | _, _ => false
end
def lexLt : List Int → List Int → Bool := HT.lexLt
def intsOf : List D → Option (List Int)
  | [] => some []
  | .int i :: r => (intsOf r).map (i :: ·)
  | _ => none
def flatD : D → Bool
  | .non => true
  | .bl _ => true
  | .int _ => true
  | .str _ => true
  | _ => false
def cut {α : Type} (xs : List α) (lo hi : Option Int) : List α := (xs.drop (HT.sIx xs.length 0 lo)).take (HT.sIx xs.length xs.length hi - HT.sIx xs.length 0 lo)
def binD : Bop → D → D → Option R
  | .add, .int i, .int j => some (.val (.int (i + j)))
  | .add, .str x, .str y => if x.length + y.length ≤ sizeLine then some (.val (.str (x ++ y))) else none
  | .add, .tup x, .tup y => if x.length + y.length ≤ sizeLine then some (.val (.tup (x ++ y))) else none
  | .add, .lst x, .lst y => if x.length + y.length ≤ sizeLine then some (.new (.lst (x ++ y))) else none
  | .sub, .int i, .int j => some (.val (.int (i - j)))
  | .mul, .int i, .int j => if i.natAbs < 2 ^ 64 ∨ j.natAbs < 2 ^ 64 then some (.val (.int (i * j))) else none
  | .mod, .int i, .int j => if 0 < j then some (.val (.int (i % j))) else none
  | .fdv, .int i, .int j => if 0 < j ∧ j < 1073741824 then some (.val (.int (i / j))) else none
  | .pow, .int i, .int j => if 0 ≤ j ∧ j ≤ 1000000 ∧ i.natAbs < 2 ^ 64 then some (.val (.int (i ^ j.toNat))) else none
  | .shr, .int i, .int j => if 0 ≤ j then some (.val (.int (i / 2 ^ j.toNat))) else none
  | .shl, .int i, .int j => if 0 ≤ j ∧ j ≤ 1000000 ∧ i.natAbs < 2 ^ 64 then some (.val (.int (i * 2 ^ j.toNat))) else none
  | _, _, _ => none
def negD : D → Option D
  | .int i => some (.int (-i))
  | _ => none
def ltD : D → D → Option Bool
  | .int i, .int j => some (decide (i < j))
  | .str x, .str y => some (decide (x < y))
  | .tup x, .tup y => match intsOf x, intsOf y with
    | some a, some b => some (lexLt a b)
    | _, _ => none
  | _, _ => none
def inD : D → D → Option Bool
  | x, .lst ys => if okD 63 x && okDs 63 ys then some (ys.any fun y => eqD y x) else none
  | x, .tup ys => if flatD x && ys.all flatD then some (ys.any fun y => eqD y x) else none
  | .str [c], .str y => some (decide (c ∈ y))
  | _, _ => none
def isNon : D → Bool
  | .non => true
  | _ => false
def cmpD : Cop → D → D → Option Bool
  | .eq, a, b => if okD 64 a && okD 64 b then some (eqD a b) else none
  | .ne, a, b => if okD 64 a && okD 64 b then some (!eqD a b) else none
  | .lt, a, b => ltD a b
  | .le, .int i, .int j => some (decide (i ≤ j))
  | .gt, .int i, .int j => some (decide (j < i))
  | .ge, .int i, .int j => some (decide (j ≤ i))
  | .is, a, .non => some (isNon a)
  | .isn, a, .non => some (!isNon a)
  | .inn, a, b => inD a b
  | .nin, a, b => (inD a b).map (!·)
  | _, _, _ => none
def truD : D → Option Bool
  | .non => some false
  | .bl b => some b
  | .int i => some (i != 0)
  | .str x => if x.length ≤ sizeLine then some (!x.isEmpty) else none
  | .tup xs => some (!xs.isEmpty)
  | .lst xs => some (!xs.isEmpty)
  | _ => none
def ixD : D → D → Option D
  | .tup xs, .int i => L2.atI xs i
  | .lst xs, .int i => L2.atI xs i
  | .fz xs, .int i => L2.atI xs i
  | .str x, .int i => if x.length ≤ sizeLine then (L2.atI x i).map fun c => .str [c] else none
  | _, _ => none
def slD : D → Option Int → Option Int → Option R
  | .tup xs, lo, hi => some (.val (.tup (cut xs lo hi)))
  | .lst xs, lo, hi => some (.new (.lst (cut xs lo hi)))
  | .str x, lo, hi => if x.length ≤ sizeLine then some (.val (.str (cut x lo hi))) else none
  | _, _, _ => none
def boolsOf : List D → Option (List Bool)
  | [] => some []
  | .bl b :: r => (boolsOf r).map (b :: ·)
  | _ => none
def biD : Bi → D → Option R
  | .len, .tup xs => some (.val (.int xs.length))
  | .len, .lst xs => some (.val (.int xs.length))
  | .len, .fz xs => some (.val (.int xs.length))
  | .len, .str x => if x.length ≤ sizeLine then some (.val (.int x.length)) else none
  | .all, .lst xs => (boolsOf xs).map fun bs => .val (.bl (bs.all id))
  | .any, .lst xs => (boolsOf xs).map fun bs => .val (.bl (bs.any id))
  | .sum, .lst xs => (intsOf xs).map fun ns => .val (.int ns.sum)
  | .tuple, .tup xs => some (.val (.tup xs))
  | .tuple, .lst xs => some (.val (.tup xs))
  | .list, .tup xs => some (.new (.lst xs))
  | .list, .lst xs => some (.new (.lst xs))
  | _, _ => none
def isD : D → Ty → Option Bool
  | .non, _ => some false
  | .bl _, t => some (t = .bool ∨ t = .int : Bool)
  | .int _, t => some (t = .int)
  | .str _, t => some (t = .str)
  | .tup _, t => some (t = .tuple)
  | .lst _, t => some (t = .list)
  | .dct _ _, t => some (t = .dict)
  | _, _ => none
def isDs (d : D) : List Ty → Option Bool
  | [] => some false
  | t :: ts => match isD d t with
    | some true => some true
    | some false => isDs d ts
    | none => none
def muD : Mu → D → List D → Option (D × D)
  | .append, .lst xs, [y] => if xs.length < sizeLine then some (.lst (xs ++ [y]), .non) else none
  | .extend, .lst xs, [.lst ys] => if xs.length + ys.length ≤ sizeLine then some (.lst (xs ++ ys), .non) else none
  | .pop, .lst xs, [] => (xs[xs.length - 1]?).map fun y => (.lst xs.dropLast, y)
  | .clear, .lst _, [] => some (.lst [], .non)
  | .reverse, .lst xs, [] => some (.lst xs.reverse, .non)
  | .set, .lst xs, [.int k, y] => (L2.ixN xs.length k).map fun j => (.lst (xs.set j y), .non)
  | _, _, _ => none
def andThen {α β : Type} (x : Option (α × Sto)) (f : α → Sto → Option β) : Option β :=
  match x with
  | some (r, S) => f r S
  | none => none
@[simp] theorem andThen_some {α β : Type} (r : α) (S : Sto) (f : α → Sto → Option β) : andThen (some (r, S)) f = f r S := rfl
@[simp] theorem andThen_none {α β : Type} (f : α → Sto → Option β) : andThen none f = none := rfl
abbrev Orc := Nat → List D → Sto → Option (R × Sto)
def withS {α : Type} (x : Option α) (S : Sto) : Option (α × Sto) := x.map fun r => (r, S)
@[simp] theorem withS_some {α : Type} (x : α) (S : Sto) : withS (some x) S = some (x, S) := rfl
@[simp] theorem withS_none {α : Type} (S : Sto) : withS (none : Option α) S = none := rfl
def tgSet : Tg → R → Env → Option Env
  | .nm i, .val d, ρ => some (ρ.set i (some (.val d)))
  | .nm i, .new d, ρ => some (ρ.set i (some (.new d)))
  | .tup is, .val (.tup xs), ρ => if is.length = xs.length then some ((is.zip xs).foldl (fun ρ p => ρ.set p.1 (some (.val p.2))) ρ) else none
  | _, _, _ => none
def wipeE (ρ : Env) : List Nat → Env
  | [] => ρ
  | v :: vs => (wipeE ρ vs).set v none
def lcLoop (g : D → Env → Option Env) (t : Env → Sto → Option (Bool × Sto)) (f : Env → Sto → Option (R × Sto)) (ρ : Env) : List D → Sto → Option (List D × Sto)
  | [], S => some ([], S)
  | x :: xs, S => match g x ρ with
    | none => none
    | some ρ' => andThen (t ρ' S) fun b S1 => if b then
        andThen (f ρ' S1) fun r S2 => match r.pur with
          | none => none
          | some d => andThen (lcLoop g t f ρ xs S2) fun ds S3 => some (d :: ds, S3)
      else lcLoop g t f ρ xs S1
def itemsOf : D → Option (List D)
  | .lst xs => some xs
  | .tup xs => some xs
  | .fz xs => some xs
  | .str x => some (x.map fun c => .str [c])
  | _ => none
def rngL (a : Int) (n : Nat) : List D := (List.range n).map fun i => .int (a + (i : Nat))
def rngC (a c : Int) (n : Nat) : List D := (List.range n).map fun i => .int (a + (i : Nat) * c)
def rng1D : D → Option (List D)
  | .int j => if -(2 ^ 62) ≤ j ∧ j < 2 ^ 62 then some (rngL 0 j.toNat) else none
  | _ => none
def rng2D : D → D → Option (List D)
  | .int i, .int j => if -(2 ^ 62) ≤ i ∧ i < 2 ^ 62 ∧ -(2 ^ 62) ≤ j ∧ j < 2 ^ 62 then some (rngL i (j - i).toNat) else none
  | _, _ => none
def rng3D : D → D → D → Option (List D)
  | .int i, .int j, .int c => if c ≠ 0 ∧ c.natAbs < 1073741824 ∧ Builtin.Range.small i j c = true ∧ 0 ≤ Builtin.Range.rangeSize i j c then some (rngC i c (Builtin.Range.rangeSize i j c).toNat) else none
  | _, _, _ => none
variable (C : Orc)
mutual
def evE (ρ : Env) : Ex → Sto → Option (R × Sto)
  | .lit d, S => some (.val d, S)
  | .nm i, S => match ρ[i]? with
    | some (some (.val d)) => some (.val d, S)
    | some (some (.new d)) => some (.brw d, S)
    | _ => none
  | .bin op a b, S => andThen (evE ρ a S) fun x S1 => andThen (evE ρ b S1) fun y S2 => withS (binD op (look S2 x.any) (look S2 y.any)) S2
  | .neg a, S => andThen (evE ρ a S) fun x S1 => withS ((negD x.any).map .val) S1
  | .not a, S => andThen (evE ρ a S) fun x S1 => withS ((truD (look S1 x.any)).map fun b => .val (.bl (!b))) S1
  | .cmp op a b, S => andThen (evE ρ a S) fun x S1 => andThen (evE ρ b S1) fun y S2 => withS ((cmpD op (look S2 x.any) (look S2 y.any)).map fun b => .val (.bl b)) S2
  | .chn o1 o2 a b c, S => andThen (evE ρ a S) fun x S1 => andThen (evE ρ b S1) fun y S2 => match cmpD o1 (look S2 x.any) (look S2 y.any) with
    | none => none
    | some false => some (.val (.bl false), S2)
    | some true => andThen (evE ρ c S2) fun z S3 => withS ((cmpD o2 (look S3 y.any) (look S3 z.any)).map fun b => .val (.bl b)) S3
  | .and a b, S => andThen (evE ρ a S) fun x S1 => match truD (look S1 x.any) with
    | none => none
    | some false => some (x, S1)
    | some true => evE ρ b S1
  | .or a b, S => andThen (evE ρ a S) fun x S1 => match truD (look S1 x.any) with
    | none => none
    | some true => some (x, S1)
    | some false => evE ρ b S1
  | .ite c a b, S => andThen (evE ρ c S) fun x S1 => match truD (look S1 x.any) with
    | none => none
    | some true => evE ρ a S1
    | some false => evE ρ b S1
  | .tup es, S => andThen (evA ρ es S) fun ds S1 => if ds.length ≤ sizeLine then some (.val (.tup ds), S1) else none
  | .lst es, S => andThen (evA ρ es S) fun ds S1 => if ds.length ≤ sizeLine then some (.new (.lst ds), S1) else none
  | .ix a b, S => andThen (evE ρ a S) fun x S1 => andThen (evE ρ b S1) fun y S2 => withS ((ixD (look S2 x.any) (look S2 y.any)).map .val) S2
  | .sl a lo hi, S => andThen (evE ρ a S) fun x S1 => andThen (evO ρ lo S1) fun l S2 => andThen (evO ρ hi S2) fun h S3 => withS (slD (look S3 x.any) l h) S3
  | .call f es, S => andThen (evA ρ es S) fun ds S1 => C f ds S1
  | .bi b a, S => andThen (evE ρ a S) fun x S1 => withS (biD b (look S1 x.any)) S1
  | .isi a ts, S => andThen (evE ρ a S) fun x S1 => withS ((isDs (look S1 x.any) ts).map fun b => .val (.bl b)) S1
  | .lc e own t it c, S => andThen (evI ρ it S) fun xs S1 =>
      andThen (lcLoop (fun x ρ' => tgSet t (.val x) ρ') (fun ρ' => evC ρ' c) (fun ρ' => evE ρ' e) (wipeE ρ own) xs S1) fun ds S2 => if ds.length ≤ sizeLine then some (.new (.lst ds), S2) else none
def evA (ρ : Env) : Exs → Sto → Option (List D × Sto)
  | .nil, S => some ([], S)
  | .cons e es, S => andThen (evE ρ e S) fun x S1 => match x.pur with
    | none => none
    | some d => andThen (evA ρ es S1) fun ds S2 => some (d :: ds, S2)
def evO (ρ : Env) : Ox → Sto → Option (Option Int × Sto)
  | .no, S => some (none, S)
  | .yes e, S => andThen (evE ρ e S) fun x S1 => match x.any with
    | .int i => some (some i, S1)
    | _ => none
def evC (ρ : Env) : Ox → Sto → Option (Bool × Sto)
  | .no, S => some (true, S)
  | .yes e, S => andThen (evE ρ e S) fun x S1 => withS (truD (look S1 x.any)) S1
def evI (ρ : Env) : Iy → Sto → Option (List D × Sto)
  | .seq e, S => andThen (evE ρ e S) fun x S1 => match x.pur with
    | none => none
    | some d => withS (itemsOf d) S1
  | .rng1 a, S => andThen (evE ρ a S) fun x S1 => withS (rng1D x.any) S1
  | .rng2 a b, S => andThen (evE ρ a S) fun x S1 => andThen (evE ρ b S1) fun y S2 => withS (rng2D x.any y.any) S2
  | .rng3 a b c, S => andThen (evE ρ a S) fun x S1 => andThen (evE ρ b S1) fun y S2 => andThen (evE ρ c S2) fun z S3 => withS (rng3D x.any y.any z.any) S3
end
def loopW (t : Env → Sto → Option (Bool × Sto)) (b : Env → Sto → Option (Out × Sto)) : Nat → Env → Sto → Option (Out × Sto)
  | 0, _, _ => none
  | n + 1, ρ, S => andThen (t ρ S) fun c S1 => if c then
      andThen (b ρ S1) fun o S2 => match o with
        | .nx ρ' => loopW t b n ρ' S2
        | .ct ρ' => loopW t b n ρ' S2
        | .bk ρ' => some (.nx ρ', S2)
        | .rt r => some (.rt r, S2)
    else some (.nx ρ, S1)
def loopF (g : D → Env → Option Env) (b : Env → Sto → Option (Out × Sto)) : List D → Env → Sto → Option (Out × Sto)
  | [], ρ, S => some (.nx ρ, S)
  | x :: xs, ρ, S => match g x ρ with
    | none => none
    | some ρ' => andThen (b ρ' S) fun o S2 => match o with
        | .nx ρ' => loopF g b xs ρ' S2
        | .ct ρ' => loopF g b xs ρ' S2
        | .bk ρ' => some (.nx ρ', S2)
        | .rt r => some (.rt r, S2)
inductive Pl where | slot (i : Nat) | cell (n : Nat)
def plOf (ρ : Env) : Ex → R → Option Pl
  | .nm i, .brw _ => some (.slot i)
  | _, .val (.ref n) => some (.cell n)
  | _, _ => none
def plGet (ρ : Env) (S : Sto) : Pl → Option D
  | .slot i => match ρ[i]? with
    | some (some (.new d)) => some d
    | _ => none
  | .cell n => S[n]?
def plSet (ρ : Env) (S : Sto) : Pl → D → Env × Sto
  | .slot i, d => (ρ.set i (some (.new d)), S)
  | .cell n, d => (ρ, S.set n d)
def evM (ρ : Env) (m : Mu) : Exs → Sto → Option (List D × Sto)
  | .cons e .nil, S => andThen (evE C ρ e S) fun x S1 => match m, x.pur with
    | .extend, _ => some ([look S1 x.any], S1)
    | _, some d => some ([d], S1)
    | _, none => none
  | es, S => evA C ρ es S
def isMu : D → Bool
  | .lst _ => true
  | _ => false
variable (W : Nat)
mutual
def evS (ρ : Env) : Sm → Sto → Option (Out × Sto)
  | .ex e, S => andThen (evE C ρ e S) fun _ S1 => some (.nx ρ, S1)
  | .asg t e, S => andThen (evE C ρ e S) fun x S1 => withS ((tgSet t x ρ).map .nx) S1
  | .new i e, S => andThen (evE C ρ e S) fun x S1 => match x with
    | .new d => some (.nx (ρ.set i (some (.val (.ref S1.length)))), S1 ++ [d])
    | _ => none
  | .mut t m o es, S => andThen (evE C ρ o S) fun x S1 => andThen (evM C ρ m es S1) fun ds S2 => match plOf ρ o x with
    | none => none
    | some p => match plGet ρ S2 p with
      | none => none
      | some d => match muD m d ds with
        | none => none
        | some (d', r) => match t with
          | none => some (.nx (plSet ρ S2 p d').1, (plSet ρ S2 p d').2)
          | some t => withS ((tgSet t (.val r) (plSet ρ S2 p d').1).map .nx) (plSet ρ S2 p d').2
  | .six o k e, S => andThen (evE C ρ e S) fun y S1 => andThen (evE C ρ o S1) fun x S2 => andThen (evE C ρ k S2) fun z S3 => match plOf ρ o x, y.pur, z.pur with
    | some p, some dy, some dz => match plGet ρ S3 p with
      | none => none
      | some d => match muD .set d [dz, dy] with
        | none => none
        | some (d', _) => some (.nx (plSet ρ S3 p d').1, (plSet ρ S3 p d').2)
    | _, _, _ => none
  | .iff c a b, S => andThen (evE C ρ c S) fun x S1 => match truD (look S1 x.any) with
    | none => none
    | some true => evSs ρ a S1
    | some false => evSs ρ b S1
  | .fr t it b, S => andThen (evI C ρ it S) fun xs S1 => loopF (fun x ρ' => tgSet t (.val x) ρ') (fun ρ' => evSs ρ' b) xs ρ S1
  | .whl c b, S => loopW (fun ρ' => evC C ρ' (.yes c)) (fun ρ' => evSs ρ' b) W ρ S
  | .ret e, S => andThen (evE C ρ e S) fun x S1 => some (.rt x.out, S1)
  | .retN, S => some (.rt (.val .non), S)
  | .pas, S => some (.nx ρ, S)
  | .brk, S => some (.bk ρ, S)
  | .cnt, S => some (.ct ρ, S)
  | .frz i, S => match ρ[i]? with
    | some (some (.new d)) => some (.nx (ρ.set i (some (.val d))), S)
    | _ => some (.nx ρ, S)
def evSs (ρ : Env) : Sms → Sto → Option (Out × Sto)
  | .nil, S => some (.nx ρ, S)
  | .cons s r, S => andThen (evS ρ s S) fun o S1 => match o with
    | .nx ρ' => evSs ρ' r S1
    | o => some (o, S1)
end
structure Fn where
  np : Nat
  nn : Nat
  body : Sms
def callN (T : List Fn) (W : Nat) : Nat → Orc
  | 0, _, _, _ => none
  | n + 1, f, ds, S => match T[f]? with
    | none => none
    | some F => if ds.length = F.np then andThen (evSs (callN T W n) W (ds.map (fun d => some (.val d)) ++ List.replicate (F.nn - F.np) none) F.body S) fun o S1 => match o with
        | .rt r => some (r, S1)
        | .nx _ => some (.val .non, S1)
        | _ => none
      else none
end Ds
namespace Ds
open PySem PySem.Spec PyProof.Rows L2
section
variable (K : PySem.W.Frag)
mutual
inductive Rep (ι : List Addr) (F : Hp) : V → D → Prop
  | non : Rep ι F .non .non
  | bl (b : Bool) : Rep ι F (.bl b) (.bl b)
  | int (i : Int) : Rep ι F (.int i) (.int i)
  | str (x : List Nat) : Rep ι F (.str ⟨x.toArray⟩) (.str x)
  | tup {a : Addr} {xs : List V} {ds : List D} : SqT K F a xs → RepL ι F xs ds → Rep ι F (.ref a) (.tup ds)
  | lst {a : Addr} {xs : List V} {ds : List D} : F a = some (.lst xs) → RepL ι F xs ds → Rep ι F (.ref a) (.lst ds)
  | fz {a : Addr} {xs : List V} {ds : List D} : SqL K F a xs → RepL ι F xs ds → Rep ι F (.ref a) (.fz ds)
  | ref {a : Addr} {n : Nat} : ι[n]? = some a → Rep ι F (.ref a) (.ref n)
inductive RepL (ι : List Addr) (F : Hp) : List V → List D → Prop
  | nil : RepL ι F [] []
  | cons {v : V} {vs : List V} {d : D} {ds : List D} : Rep ι F v d → RepL ι F vs ds → RepL ι F (v :: vs) (d :: ds)
end
def OwnO (ι : List Addr) (F H : Hp) (a : Addr) : D → Prop
  | .lst ds => ∃ xs, H a = some (.lst xs) ∧ RepL K ι F xs ds
  | _ => False
end
def Sub (F F' : Hp) : Prop := ∀ a o, F a = some o → F' a = some o
theorem Sub.refl {F : Hp} : Sub F F := fun _ _ h => h
theorem Sub.trans {F F' F'' : Hp} (a : Sub F F') (b : Sub F' F'') : Sub F F'' := fun x o h => b x o (a x o h)
theorem Sub.rd {F F' : Hp} (h : Sub F F') {a : Addr} {u : HO} (r : Rd F a u) : Rd F' a u := by
  rcases r with r | ⟨o, r⟩
  · exact .inl (h _ _ r)
  · exact .inr ⟨o, h _ _ r⟩
theorem Sub.sqT {K : PySem.W.Frag} {F F' : Hp} (h : Sub F F') {a : Addr} {xs : List V} (r : SqT K F a xs) : SqT K F' a xs := by
  rcases r with r | r
  · exact .inl (h.rd r)
  · exact .inr r
theorem Sub.sqL {K : PySem.W.Frag} {F F' : Hp} (h : Sub F F') {a : Addr} {xs : List V} (r : SqL K F a xs) : SqL K F' a xs := by
  rcases r with r | r
  · exact .inl (h.rd r)
  · exact .inr r
def Pre (ι ι' : List Addr) : Prop := ∃ l, ι' = ι ++ l
theorem Pre.refl {ι : List Addr} : Pre ι ι := ⟨[], by simp⟩
theorem Pre.trans {a b c : List Addr} : Pre a b → Pre b c → Pre a c := by
  rintro ⟨l, rfl⟩ ⟨m, rfl⟩
  exact ⟨l ++ m, by simp⟩
theorem Pre.get {ι ι' : List Addr} (p : Pre ι ι') {n : Nat} {a : Addr} (h : ι[n]? = some a) : ι'[n]? = some a := by
  obtain ⟨l, rfl⟩ := p
  have hn : n < ι.length := by
    rcases Nat.lt_or_ge n ι.length with q | q
    · exact q
    · rw [List.getElem?_eq_none q] at h; cases h
  rw [List.getElem?_append_left hn]; exact h
theorem Pre.mem {ι ι' : List Addr} (p : Pre ι ι') {a : Addr} (h : a ∈ ι) : a ∈ ι' := by
  obtain ⟨l, rfl⟩ := p
  exact List.mem_append_left _ h
section
variable {K : PySem.W.Frag} {ι ι' : List Addr} {F F' H H' : Hp}
mutual
theorem Rep.up (p : Pre ι ι') (s : Sub F F') : ∀ {v : V} {d : D}, Rep K ι F v d → Rep K ι' F' v d
  | _, _, .non => .non
  | _, _, .bl b => .bl b
  | _, _, .int i => .int i
  | _, _, .str x => .str x
  | _, _, .tup h r => .tup (s.sqT h) (RepL.up p s r)
  | _, _, .lst h r => .lst (s _ _ h) (RepL.up p s r)
  | _, _, .fz h r => .fz (s.sqL h) (RepL.up p s r)
  | _, _, .ref h => .ref (p.get h)
theorem RepL.up (p : Pre ι ι') (s : Sub F F') : ∀ {v : List V} {d : List D}, RepL K ι F v d → RepL K ι' F' v d
  | _, _, .nil => .nil
  | _, _, .cons h r => .cons (Rep.up p s h) (RepL.up p s r)
end
theorem RepL.length {vs : List V} {ds : List D} (h : RepL K ι F vs ds) : vs.length = ds.length := by
  induction vs generalizing ds with
  | nil => cases h; rfl
  | cons v vs ih => cases h with | cons h r => simp [ih r]
theorem RepL.get {vs : List V} {ds : List D} (h : RepL K ι F vs ds) : ∀ {i : Nat} {d : D}, ds[i]? = some d → ∃ v, vs[i]? = some v ∧ Rep K ι F v d := by
  induction vs generalizing ds with
  | nil => cases h; intro i d e; simp at e
  | cons v vs ih =>
    cases h with
    | cons h r =>
      intro i d e
      cases i with
      | zero => simp at e; subst e; exact ⟨v, rfl, h⟩
      | succ i => simp at e; obtain ⟨w, e1, e2⟩ := ih r e; exact ⟨w, by simpa using e1, e2⟩
theorem RepL.getV {vs : List V} {ds : List D} (h : RepL K ι F vs ds) : ∀ {i : Nat} {v : V}, vs[i]? = some v → ∃ d, ds[i]? = some d ∧ Rep K ι F v d := by
  induction vs generalizing ds with
  | nil => cases h; intro i d e; simp at e
  | cons v vs ih =>
    cases h with
    | cons h r =>
      intro i d e
      cases i with
      | zero => simp at e; subst e; exact ⟨_, rfl, h⟩
      | succ i => simp at e; obtain ⟨w, e1, e2⟩ := ih r e; exact ⟨w, by simpa using e1, e2⟩
theorem RepL.append {vs ws : List V} {ds es : List D} (h : RepL K ι F vs ds) (h' : RepL K ι F ws es) : RepL K ι F (vs ++ ws) (ds ++ es) := by
  induction vs generalizing ds with
  | nil => cases h; exact h'
  | cons v vs ih => cases h with | cons h r => exact .cons h (ih r)
theorem RepL.drop {vs : List V} {ds : List D} (h : RepL K ι F vs ds) : ∀ n, RepL K ι F (vs.drop n) (ds.drop n) := by
  induction vs generalizing ds with
  | nil => cases h; intro n; simp; exact .nil
  | cons v vs ih =>
    cases h with
    | cons h r =>
      intro n
      cases n with
      | zero => exact .cons h r
      | succ n => simpa using ih r n
theorem RepL.take {vs : List V} {ds : List D} (h : RepL K ι F vs ds) : ∀ n, RepL K ι F (vs.take n) (ds.take n) := by
  induction vs generalizing ds with
  | nil => cases h; intro n; simp; exact .nil
  | cons v vs ih =>
    cases h with
    | cons h r =>
      intro n
      cases n with
      | zero => simp; exact .nil
      | succ n => simpa using RepL.cons h (ih r n)
theorem RepL.set {vs : List V} {ds : List D} {v : V} {d : D} (h : RepL K ι F vs ds) (q : Rep K ι F v d) : ∀ n, RepL K ι F (vs.set n v) (ds.set n d) := by
  induction vs generalizing ds with
  | nil => cases h; intro n; exact .nil
  | cons w vs ih =>
    cases h with
    | cons h r =>
      intro n
      cases n with
      | zero => exact .cons q r
      | succ n => exact .cons h (ih r n)
theorem RepL.reverse {vs : List V} {ds : List D} (h : RepL K ι F vs ds) : RepL K ι F vs.reverse ds.reverse := by
  induction vs generalizing ds with
  | nil => cases h; exact .nil
  | cons w vs ih =>
    cases h with
    | cons h r => simp only [List.reverse_cons]; exact (ih r).append (.cons h .nil)
theorem RepL.cut {vs : List V} {ds : List D} (h : RepL K ι F vs ds) (lo hi : Option Int) : RepL K ι F (cutV vs lo hi) (cut ds lo hi) := by
  unfold cutV Ds.cut
  rw [h.length]
  exact (h.drop _).take _
theorem OwnO.up (p : Pre ι ι') (s : Sub F F') {a : Addr} {d : D} (e : H' a = H a) (o : OwnO K ι F H a d) : OwnO K ι' F' H' a d := by
  cases d with
  | lst ds => obtain ⟨xs, h, r⟩ := o; exact ⟨xs, by rw [e]; exact h, r.up p s⟩
  | _ => exact o.elim
theorem OwnO.live {a : Addr} {d : D} (o : OwnO K ι F H a d) : ∃ u, H a = some u := by
  cases d with
  | lst ds => obtain ⟨xs, h, r⟩ := o; exact ⟨_, h⟩
  | _ => exact o.elim
end
def NoO : Addr → Prop := fun _ => False
structure Stp (O : Addr → Prop) (ι : List Addr) (F H : Hp) (ι' : List Addr) (F' H' : Hp) : Prop where
  pre : Pre ι ι'
  mono : Sub F F'
  newF : ∀ a o, F' a = some o → F a = none → H a = none ∨ O a
  newC : ∀ a, a ∈ ι' → a ∉ ι → H a = none ∨ O a
  keep : ∀ a o, H a = some o → a ∉ ι → ¬ O a → H' a = some o
  live : ∀ a o, H a = some o → ∃ o', H' a = some o'
structure Good (K : PySem.W.Frag) (ι : List Addr) (F H : Hp) (S : Sto) : Prop where
  sub : Sub F H
  len : ι.length = S.length
  cells : ∀ (n : Nat) (a : Addr) (d : D), ι[n]? = some a → S[n]? = some d → F a = none ∧ OwnO K ι F H a d
  nod : ι.Nodup
structure Slots (K : PySem.W.Frag) (ι : List Addr) (F H : Hp) (σ : L2.St) (ρ : Env) : Prop where
  len : σ.length = ρ.length
  val : ∀ (i : Nat) (d : D), ρ[i]? = some (some (.val d)) → ∃ v, σ[i]? = some (some v) ∧ Rep K ι F v d
  own : ∀ (i : Nat) (d : D), ρ[i]? = some (some (.new d)) → ∃ a, σ[i]? = some (some (.ref a)) ∧ F a = none ∧ a ∉ ι ∧ OwnO K ι F H a d
  inj : ∀ (i j : Nat) (a : Addr) (d d' : D), ρ[i]? = some (some (.new d)) → ρ[j]? = some (some (.new d')) → σ[i]? = some (some (.ref a)) → σ[j]? = some (some (.ref a)) → i = j
def OwnA (σ : L2.St) (ρ : Env) (a : Addr) : Prop := ∃ (i : Nat) (d : D), ρ[i]? = some (some (.new d)) ∧ σ[i]? = some (some (.ref a))
section
variable {K : PySem.W.Frag} {O O2 O' : Addr → Prop} {ι ι1 ι2 ι' : List Addr} {F F1 F2 F' H H1 H2 H' : Hp} {S S' S1 : Sto} {σ : L2.St} {ρ : Env} {a : Addr} {d : D}
theorem Stp.refl : Stp O ι F H ι F H := ⟨.refl, .refl, fun _ _ h n => (by rw [n] at h; cases h), fun _ h n => (n h).elim, fun _ _ h _ _ => h, fun _ o h => ⟨o, h⟩⟩
theorem Stp.weak (s : Stp O ι F H ι1 F1 H1) (w : ∀ a, O a → O2 a) : Stp O2 ι F H ι1 F1 H1 :=
  ⟨s.pre, s.mono, fun a o h n => (s.newF a o h n).imp id (w a), fun a h n => (s.newC a h n).imp id (w a), fun a o h n m => s.keep a o h n fun q => m (w a q), s.live⟩
theorem Stp.dead (s : Stp O ι F H ι1 F1 H1) {a : Addr} (h : H1 a = none) : H a = none := by
  cases e : H a with
  | none => rfl
  | some o => obtain ⟨o', h'⟩ := s.live a o e; rw [h] at h'; cases h'
theorem Stp.trans (s : Stp O ι F H ι1 F1 H1) (t : Stp O2 ι1 F1 H1 ι2 F2 H2) (w : ∀ a, O2 a → O a ∨ H a = none) : Stp O ι F H ι2 F2 H2 where
  pre := s.pre.trans t.pre
  mono := s.mono.trans t.mono
  newF := fun a o h n => by
    cases e : F1 a with
    | some u => exact s.newF a u e n
    | none =>
      rcases t.newF a o h e with q | q
      · exact .inl (s.dead q)
      · exact (w a q).symm
  newC := fun a h n => by
    by_cases e : a ∈ ι1
    · exact s.newC a e n
    · rcases t.newC a h e with q | q
      · exact .inl (s.dead q)
      · exact (w a q).symm
  keep := fun a o h n m => by
    refine t.keep a o (s.keep a o h n m) (fun q => ?_) fun q => ?_
    · rcases s.newC a q n with z | z
      · rw [h] at z; cases z
      · exact m z
    · rcases w a q with z | z
      · exact m z
      · rw [h] at z; cases z
  live := fun a o h => by
    obtain ⟨o', h'⟩ := s.live a o h
    exact t.live a o' h'
theorem Stp.tr0 (s : Stp O ι F H ι1 F1 H1) (t : Stp NoO ι1 F1 H1 ι2 F2 H2) : Stp O ι F H ι2 F2 H2 := s.trans t fun _ q => q.elim
theorem Stp.own (s : Stp O ι F H ι1 F1 H1) (o : OwnO K ι F H a d) (hf : F a = none) (hi : a ∉ ι) (hO : ¬ O a) : F1 a = none ∧ a ∉ ι1 ∧ OwnO K ι1 F1 H1 a d := by
  obtain ⟨u, hu⟩ := o.live
  refine ⟨?_, fun q => ?_, o.up s.pre s.mono ?_⟩
  · cases e : F1 a with
    | none => rfl
    | some v =>
      rcases s.newF a v e hf with z | z
      · rw [hu] at z; cases z
      · exact (hO z).elim
  · rcases s.newC a q hi with z | z
    · rw [hu] at z; cases z
    · exact hO z
  · rw [hu]; exact s.keep a u hu hi hO
theorem Slots.step (sl : Slots K ι F H σ ρ) (s : Stp NoO ι F H ι1 F1 H1) : Slots K ι1 F1 H1 σ ρ where
  len := sl.len
  val := fun i d h => by
    obtain ⟨v, e, r⟩ := sl.val i d h
    exact ⟨v, e, r.up s.pre s.mono⟩
  own := fun i d h => by
    obtain ⟨a, e, f, n, o⟩ := sl.own i d h
    obtain ⟨f', n', o'⟩ := s.own o f n fun z => z
    exact ⟨a, e, f', n', o'⟩
  inj := sl.inj
theorem Slots.ownA (sl : Slots K ι F H σ ρ) (h : OwnA σ ρ a) : F a = none ∧ a ∉ ι ∧ ∃ u, H a = some u := by
  obtain ⟨i, d, e1, e2⟩ := h
  obtain ⟨b, e, f, n, o⟩ := sl.own i d e1
  rw [e2] at e
  cases e
  exact ⟨f, n, o.live⟩
def ResOk (K : PySem.W.Frag) (OA : Addr → Prop) (H0 : Hp) (ι : List Addr) (F H : Hp) (v : V) : R → Prop
  | .val d => Rep K ι F v d
  | .new d => ∃ a, v = .ref a ∧ H0 a = none ∧ F a = none ∧ a ∉ ι ∧ OwnO K ι F H a d
  | .brw d => ∃ a, v = .ref a ∧ OA a ∧ F a = none ∧ a ∉ ι ∧ OwnO K ι F H a d
theorem ResOk.back {OA : Addr → Prop} {v : V} {r : R} (s : Stp O ι F H ι1 F1 H1) (h : ResOk K OA H1 ι' F' H' v r) : ResOk K OA H ι' F' H' v r := by
  cases r with
  | val d => exact h
  | new d => obtain ⟨a, e, n, q⟩ := h; exact ⟨a, e, s.dead n, q⟩
  | brw d => exact h
theorem ResOk.step {OA : Addr → Prop} {v : V} {r : R} (h : ResOk K OA H' ι F H v r) (s : Stp NoO ι F H ι1 F1 H1) : ResOk K OA H' ι1 F1 H1 v r := by
  cases r with
  | val d => exact Rep.up s.pre s.mono h
  | new d =>
    obtain ⟨a, e, n, f, m, o⟩ := h
    obtain ⟨f', n', o'⟩ := s.own o f m fun z => z
    exact ⟨a, e, n, f', n', o'⟩
  | brw d =>
    obtain ⟨a, e, n, f, m, o⟩ := h
    obtain ⟨f', n', o'⟩ := s.own o f m fun z => z
    exact ⟨a, e, n, f', n', o'⟩
def View (K : PySem.W.Frag) (ι : List Addr) (F H : Hp) (v : V) (d : D) : Prop := (Rep K ι F v d ∧ ∀ n, d ≠ .ref n) ∨ ∃ a, v = .ref a ∧ OwnO K ι F H a d
theorem ResOk.view {OA : Addr → Prop} {v : V} {r : R} (h : ResOk K OA H' ι F H v r) (g : Good K ι F H S) : View K ι F H v (look S r.any) := by
  have key : ∀ {a : Addr} {d : D}, OwnO K ι F H a d → View K ι F H (.ref a) (look S d) := fun {a d} o => by
    cases d with
    | lst ds => exact .inr ⟨a, rfl, o⟩
    | _ => exact o.elim
  cases r with
  | val d =>
    have h : Rep K ι F v d := h
    cases d with
    | ref n =>
      cases h with
      | @ref a n e =>
        have hn : n < S.length := by
          rw [← g.len]
          rcases Nat.lt_or_ge n ι.length with q | q
          · exact q
          · rw [List.getElem?_eq_none q] at e; cases e
        obtain ⟨f, o⟩ := g.cells n a _ e (List.getElem?_eq_getElem hn)
        refine .inr ⟨a, rfl, ?_⟩
        show OwnO K ι F H a (S.getD n .non)
        rw [List.getD_eq_getElem?_getD, List.getElem?_eq_getElem hn]
        exact o
    | _ => exact .inl ⟨h, fun n e => nomatch e⟩
  | new d => obtain ⟨a, rfl, _, _, _, o⟩ := h; exact key o
  | brw d => obtain ⟨a, rfl, _, _, _, o⟩ := h; exact key o
theorem stp_new {p : Addr} {o : HO} (hp : H p = none) : Stp NoO ι F H ι F (upd H p o) :=
  ⟨.refl, .refl, fun a o h n => (by rw [n] at h; cases h), fun _ h n => (n h).elim, fun a u h _ _ => by rw [upd_ne (ne_of_none h hp)]; exact h, fun a u h => ⟨u, by rw [upd_ne (ne_of_none h hp)]; exact h⟩⟩
theorem sub_new {p : Addr} {o : HO} (g : Sub F H) (hp : H p = none) : F p = none := by
  cases e : F p with
  | none => rfl
  | some u => have := g p u e; rw [hp] at this; cases this
theorem sub_upd {p : Addr} {o : HO} (hp : F p = none) : Sub F (upd F p o) := fun a u h => by rw [upd_ne (ne_of_none h hp)]; exact h
theorem sub_upd2 {p : Addr} {o : HO} (g : Sub F H) : Sub (upd F p o) (upd H p o) := fun a u h => by
  by_cases e : a = p
  · subst e; rw [upd_same] at h ⊢; exact h
  · rw [upd_ne e] at h ⊢; exact g a u h
theorem Good.new (g : Good K ι F H S) {p : Addr} {o : HO} (hp : H p = none) : Good K ι F (upd H p o) S where
  sub := fun a u h => by rw [upd_ne (ne_of_none (g.sub a u h) hp)]; exact g.sub a u h
  len := g.len
  cells := fun n a d h1 h2 => by
    obtain ⟨f, ow⟩ := g.cells n a d h1 h2
    obtain ⟨u, hu⟩ := ow.live
    exact ⟨f, ow.up .refl .refl (upd_ne (ne_of_none hu hp))⟩
  nod := g.nod
theorem Good.freeze (g : Good K ι F H S) {p : Addr} {o : HO} (hp : H p = some o) (hi : p ∉ ι) (hf : F p = none) : Good K ι (upd F p o) H S where
  sub := fun a u h => by
    by_cases e : a = p
    · subst e; rw [upd_same] at h; rw [hp]; exact h
    · rw [upd_ne e] at h; exact g.sub a u h
  len := g.len
  cells := fun n a d h1 h2 => by
    obtain ⟨f, ow⟩ := g.cells n a d h1 h2
    have hne : a ≠ p := fun e => hi (e ▸ List.mem_of_getElem? h1)
    exact ⟨by rw [upd_ne hne]; exact f, ow.up .refl (sub_upd hf) rfl⟩
  nod := g.nod
theorem stp_freeze {p : Addr} {o : HO} (hf : F p = none) (hO : H p = none ∨ O p) : Stp O ι F H ι (upd F p o) H :=
  ⟨.refl, sub_upd hf, fun a u h n => (by
    by_cases e : a = p
    · subst e; exact hO
    · rw [upd_ne e, n] at h; cases h), fun _ h n => (n h).elim, fun _ _ h _ _ => h, fun _ u h => ⟨u, h⟩⟩
theorem ResOk.pur {OA : Addr → Prop} {H0 : Hp} {v : V} {r : R} {d : D} (h : ResOk K OA H0 ι' F' H' v r) (e : r.pur = some d) (g : Good K ι' F' H' S') (s : Stp NoO ι F H0 ι' F' H') :
    ∃ F'', Stp NoO ι F H0 ι' F'' H' ∧ Good K ι' F'' H' S' ∧ Rep K ι' F'' v d ∧ Sub F' F'' := by
  cases r with
  | val d' => cases e; exact ⟨F', s, g, h, .refl⟩
  | new d' =>
    cases e
    obtain ⟨a, rfl, n, f, m, o⟩ := h
    cases d with
    | lst ds =>
      obtain ⟨xs, hx, rl⟩ := o
      refine ⟨upd F' a (.lst xs), ?_, g.freeze hx m f, .lst upd_same (rl.up .refl (sub_upd f)), sub_upd f⟩
      refine ⟨s.pre, s.mono.trans (sub_upd f), fun b u hb hn => ?_, s.newC, s.keep, s.live⟩
      by_cases e : b = a
      · subst e; exact .inl n
      · rw [upd_ne e] at hb; exact s.newF b u hb hn
    | _ => exact o.elim
  | brw d' => cases e
end
section
variable (X : Cx)
def WE (e : Expr) (σ : L2.St) (H : Hp) (Q : VK) : Prop := ∃ t, PE X e t ∧ t σ H Q
def WT (e : Expr) (σ : L2.St) (H : Hp) (Q : Bool → Hp → Prop) : Prop := ∃ t, PT X e t ∧ t σ H Q
def WA (es : List Expr) (σ : L2.St) (H : Hp) (Q : List V → Hp → Prop) : Prop := ∃ t, PA X es t ∧ t σ H Q
def WS (s : Stmt) (D : Ends) (σ : L2.St) (H : Hp) : Prop := ∃ t, PS X s t ∧ t D σ H
def WSs (s : List Stmt) (D : Ends) (σ : L2.St) (H : Hp) : Prop := ∃ t, PSs X s t ∧ t D σ H
def WI (tg e : Expr) (σ : L2.St) (H : Hp) (R : L2.It → Hp → Prop) : Prop := ∃ t, PI X tg e t ∧ t σ H R
def WG (tg : Expr) (v : V) (σ : L2.St) (H : Hp) (Q : L2.St → Hp → Prop) : Prop := ∃ t, PG X tg t ∧ t v σ H Q
def WO (e : Option Expr) (σ : L2.St) (H : Hp) (Q : Option Int → Hp → Prop) : Prop := ∃ t, PO X e t ∧ t σ H Q
def WOp (f : Value → Value → Sem Value) (x y : V) (H : Hp) (Q : VK) : Prop := ∃ r, OpR X f r ∧ r x y H Q
def WUn (f : Value → Sem Value) (x : V) (H : Hp) (Q : VK) : Prop := ∃ r, UnR X f r ∧ r x H Q
def WCall (f : Value) (xs : List V) (H : Hp) (Q : VK) : Prop := ∃ r, CallR X f r ∧ r xs H Q
def WIx (x y : V) (H : Hp) (Q : VK) : Prop := ∃ r, IxR X r ∧ r x y H Q
def WSl (x : V) (l h : Option Int) (H : Hp) (Q : VK) : Prop := ∃ r, SlR X r ∧ r x l h H Q
def WMt (id : String) (x : V) (xs : List V) (H : Hp) (Q : VK) : Prop := ∃ r, MtR X id r ∧ r x xs H Q
end
section
variable {X : Cx}
theorem WE.pe {e : Expr} : PE X e (WE X e) := ⟨fun pins s σ H Q I h => let ⟨_, p, q⟩ := h; p.run pins s σ H Q I q⟩
theorem WT.pt {e : Expr} : PT X e (WT X e) := ⟨fun pins s σ H Q I h => let ⟨_, p, q⟩ := h; p.run pins s σ H Q I q⟩
theorem WA.pa {es : List Expr} : PA X es (WA X es) := ⟨fun pos pins s σ H Q I h => let ⟨_, p, q⟩ := h; p.run pos pins s σ H Q I q⟩
theorem WS.ps {s : Stmt} : PS X s (WS X s) := ⟨fun pins s σ H D I h => let ⟨_, p, q⟩ := h; p.run pins s σ H D I q⟩
theorem WSs.pss {s : List Stmt} : PSs X s (WSs X s) := ⟨fun pins s σ H D I h => let ⟨_, p, q⟩ := h; p.run pins s σ H D I q⟩
theorem WI.pi {tg e : Expr} : PI X tg e (WI X tg e) := ⟨fun pins s σ H R I h => let ⟨_, p, q⟩ := h; p.run pins s σ H R I q⟩
theorem WG.pg {tg : Expr} : PG X tg (WG X tg) := ⟨fun pins s σ H v u D I r h => let ⟨_, p, q⟩ := h; p.run pins s σ H v u D I r q⟩
theorem WO.po {e : Option Expr} : PO X e (WO X e) := ⟨fun pins s σ H Q I h => let ⟨_, p, q⟩ := h; p.run pins s σ H Q I q⟩
theorem WOp.or {f : Value → Value → Sem Value} : OpR X f (WOp X f) := fun pins s σ H x y v u Q I rx ry h => let ⟨_, p, q⟩ := h; p pins s σ H x y v u Q I rx ry q
theorem WUn.ur {f : Value → Sem Value} : UnR X f (WUn X f) := fun pins s σ H x v Q I rx h => let ⟨_, p, q⟩ := h; p pins s σ H x v Q I rx q
theorem WCall.cr {f : Value} : CallR X f (WCall X f) := fun pins s σ H xs us Q I rx h => let ⟨_, p, q⟩ := h; p pins s σ H xs us Q I rx q
theorem WIx.ir : IxR X (WIx X) := fun a b pins s σ H x y v u Q I rx ry h hs => let ⟨_, p, q⟩ := h; p a b pins s σ H x y v u Q I rx ry q hs
theorem WMt.mr {id : String} : MtR X id (WMt X id) := fun pins s σ H x xs v us Q I rx ry h => let ⟨_, p, q⟩ := h; p pins s σ H x xs v us Q I rx ry q
end
end Ds
namespace Ds
open PySem PySem.Spec PyProof.Rows L2
mutual
def py : D → PyData
  | .bl b => .bool b
  | .int i => .int i
  | .str x => .str ⟨x.toArray⟩
  | .tup xs => .tuple (pys xs)
  | .lst xs => .list (pys xs)
  | _ => .none
def pys : List D → List PyData
  | [] => []
  | x :: xs => py x :: pys xs
end
section
variable {K : PySem.W.Frag} {ι : List Addr} {F H : Hp}
mutual
theorem dp_of (s : Sub F H) : ∀ (d : D) (n : Nat) (v : V), okD n d = true → Rep K ι F v d → Dp K H v (py d)
  | .non, _, _, _, r => by cases r; exact .non
  | .bl b, _, _, _, r => by cases r; exact .bl b
  | .int i, _, _, _, r => by cases r; exact .int i
  | .str x, _, _, _, r => by cases r; exact .str _
  | .tup ds, 0, _, k, r => by simp [okD] at k
  | .tup ds, n + 1, _, k, r => by
    cases r with
    | tup h q =>
      simp only [okD] at k
      simp only [py]
      exact .tup (s.sqT h) (dps_of s ds n _ k q)
  | .lst ds, 0, _, k, r => by simp [okD] at k
  | .lst ds, n + 1, _, k, r => by
    cases r with
    | lst h q =>
      simp only [okD] at k
      simp only [py]
      exact .lst (SqL.of (s _ _ h)) (dps_of s ds n _ k q)
  | .dct _ _, _, _, k, _ => by simp [okD] at k
  | .fz _, _, _, k, _ => by simp [okD] at k
  | .ref _, _, _, k, _ => by simp [okD] at k
theorem dps_of (s : Sub F H) : ∀ (ds : List D) (n : Nat) (vs : List V), okDs n ds = true → RepL K ι F vs ds → DpAll K H vs (pys ds)
  | [], _, _, _, r => by cases r; exact .nil
  | d :: ds, n, _, k, r => by
    cases r with
    | cons h q =>
      simp only [okDs, Bool.and_eq_true] at k
      simp only [pys]
      exact .cons (dp_of s d n _ k.1 h) (dps_of s ds n _ k.2 q)
end
mutual
theorem lay_of : ∀ (d : D) (n : Nat), okD n d = true → PyData.canLay0 (py d) = true ∧ PyData.depth (py d) ≤ n
  | .non, _, _ => by simp [py, PyData.canLay0, PyData.depth]
  | .bl b, _, _ => by simp [py, PyData.canLay0, PyData.depth]
  | .int i, _, _ => by simp [py, PyData.canLay0, PyData.depth]
  | .str x, _, k => by
    have k' : x.all (fun c => decide (c < 0x110000)) = true := by simpa [okD] using k
    refine ⟨?_, by simp [py, PyData.depth]⟩
    simp only [py, PyData.canLay0, PyData.strOk]
    simpa using k'
  | .tup ds, 0, k => by simp [okD] at k
  | .tup ds, n + 1, k => by
    simp only [okD] at k
    obtain ⟨h1, h2⟩ := lays_of ds n k
    simp only [py, PyData.canLay0, PyData.depth]
    exact ⟨h1, by omega⟩
  | .lst ds, 0, k => by simp [okD] at k
  | .lst ds, n + 1, k => by
    simp only [okD] at k
    obtain ⟨h1, h2⟩ := lays_of ds n k
    simp only [py, PyData.canLay0, PyData.depth]
    exact ⟨h1, by omega⟩
  | .dct _ _, _, k => by simp [okD] at k
  | .fz _, _, k => by simp [okD] at k
  | .ref _, _, k => by simp [okD] at k
theorem lays_of : ∀ (ds : List D) (n : Nat), okDs n ds = true → PyData.canLayAll0 (pys ds) = true ∧ PyData.depthAll (pys ds) ≤ n
  | [], _, _ => by simp [pys, PyData.canLayAll0, PyData.depthAll]
  | d :: ds, n, k => by
    simp only [okDs, Bool.and_eq_true] at k
    obtain ⟨h1, h2⟩ := lay_of d n k.1
    obtain ⟨h3, h4⟩ := lays_of ds n k.2
    simp only [pys, PyData.canLayAll0, PyData.depthAll, h1, h3, Bool.and_self, true_and]
    omega
end
theorem shaped_of {d : D} (k : okD 64 d = true) : SeqAt.shaped (py d) = true := by
  obtain ⟨h1, h2⟩ := lay_of d 64 k
  unfold SeqAt.shaped
  rw [h1, decide_eq_true h2]
  rfl
theorem arr_beq (x y : List Nat) : ((⟨x.toArray⟩ : Str) == ⟨y.toArray⟩) = (x == y) := by
  by_cases h : x = y
  · subst h; simp
  · have h1 : (x == y) = false := beq_eq_false_iff_ne.mpr h
    rw [h1]
    refine beq_eq_false_iff_ne.mpr fun e => h ?_
    have e' := Str.mk.inj e
    simpa using e'
mutual
theorem eqv_of : ∀ (d e : D) (n m : Nat), okD n d = true → okD m e = true → PyData.eqv (py d) (py e) = eqD d e
  | .non, e, _, _, _, k => by cases e <;> simp [py, PyData.eqv, eqD] <;> (rename_i m; cases m <;> simp [okD] at k)
  | .bl b, e, _, _, _, k => by cases e <;> simp [py, PyData.eqv, eqD]
  | .int b, e, _, _, _, k => by cases e <;> simp [py, PyData.eqv, eqD]
  | .str x, e, _, _, _, k => by cases e <;> simp [py, PyData.eqv, eqD, arr_beq]
  | .tup ds, e, 0, _, k, _ => by simp [okD] at k
  | .tup ds, e, n + 1, m, k, k' => by
    cases e with
    | tup es =>
      cases m with
      | zero => simp [okD] at k'
      | succ m =>
        simp only [okD] at k k'
        simp only [py, PyData.eqv, eqD]
        exact eqvs_of ds es n m k k'
    | _ => simp [py, PyData.eqv, eqD]
  | .lst ds, e, 0, _, k, _ => by simp [okD] at k
  | .lst ds, e, n + 1, m, k, k' => by
    cases e with
    | lst es =>
      cases m with
      | zero => simp [okD] at k'
      | succ m =>
        simp only [okD] at k k'
        simp only [py, PyData.eqv, eqD]
        exact eqvs_of ds es n m k k'
    | _ => simp [py, PyData.eqv, eqD]
  | .dct _ _, _, _, _, k, _ => by simp [okD] at k
  | .fz _, _, _, _, k, _ => by simp [okD] at k
  | .ref _, _, _, _, k, _ => by simp [okD] at k
theorem eqvs_of : ∀ (ds es : List D) (n m : Nat), okDs n ds = true → okDs m es = true → PyData.eqvAll (pys ds) (pys es) = eqDs ds es
  | [], [], _, _, _, _ => by simp [pys, PyData.eqvAll, eqDs]
  | [], _ :: _, _, _, _, _ => by simp [pys, PyData.eqvAll, eqDs]
  | _ :: _, [], _, _, _, _ => by simp [pys, PyData.eqvAll, eqDs]
  | d :: ds, e :: es, n, m, k, k' => by
    simp only [okDs, Bool.and_eq_true] at k k'
    simp only [pys, PyData.eqvAll, eqDs]
    rw [eqv_of d e n m k.1 k'.1, eqvs_of ds es n m k.2 k'.2]
end
theorem dpv_of (s : Sub F H) {v : V} {d : D} {n : Nat} (k : okD n d = true) (w : View K ι F H v d) : Dp K H v (py d) := by
  rcases w with ⟨r, _⟩ | ⟨a, rfl, o⟩
  · exact dp_of s d n v k r
  · cases d with
    | lst ds =>
      obtain ⟨xs, h, q⟩ := o
      cases n with
      | zero => simp [okD] at k
      | succ n =>
        simp only [okD] at k
        simp only [py]
        exact .lst (SqL.of h) (dps_of s ds n _ k q)
    | _ => exact o.elim
theorem View.lst {v : V} {ds : List D} (s : Sub F H) (w : View K ι F H v (.lst ds)) : ∃ a xs, v = .ref a ∧ H a = some (.lst xs) ∧ RepL K ι F xs ds := by
  rcases w with ⟨r, _⟩ | ⟨a, rfl, xs, h, q⟩
  · cases r with | lst h q => exact ⟨_, _, rfl, s _ _ h, q⟩
  · exact ⟨a, xs, rfl, h, q⟩
theorem View.tup {v : V} {ds : List D} (s : Sub F H) (w : View K ι F H v (.tup ds)) : ∃ a xs, v = .ref a ∧ SqT K H a xs ∧ RepL K ι F xs ds ∧ SqT K F a xs := by
  rcases w with ⟨r, _⟩ | ⟨a, rfl, o⟩
  · cases r with | tup h q => exact ⟨_, _, rfl, s.sqT h, q, h⟩
  · exact o.elim
theorem View.fz {v : V} {ds : List D} (s : Sub F H) (w : View K ι F H v (.fz ds)) : ∃ a xs, v = .ref a ∧ SqL K H a xs ∧ RepL K ι F xs ds := by
  rcases w with ⟨r, _⟩ | ⟨a, rfl, o⟩
  · cases r with | fz h q => exact ⟨_, _, rfl, s.sqL h, q⟩
  · exact o.elim
theorem View.int {v : V} {i : Int} (w : View K ι F H v (.int i)) : v = .int i := by
  rcases w with ⟨r, _⟩ | ⟨a, rfl, o⟩
  · cases r; rfl
  · exact o.elim
theorem View.bl {v : V} {i : Bool} (w : View K ι F H v (.bl i)) : v = .bl i := by
  rcases w with ⟨r, _⟩ | ⟨a, rfl, o⟩
  · cases r; rfl
  · exact o.elim
theorem View.non {v : V} (w : View K ι F H v .non) : v = .non := by
  rcases w with ⟨r, _⟩ | ⟨a, rfl, o⟩
  · cases r; rfl
  · exact o.elim
theorem View.str {v : V} {x : List Nat} (w : View K ι F H v (.str x)) : v = .str ⟨x.toArray⟩ := by
  rcases w with ⟨r, _⟩ | ⟨a, rfl, o⟩
  · cases r; rfl
  · exact o.elim
theorem View.noref {v : V} {n : Nat} (w : View K ι F H v (.ref n)) : False := by
  rcases w with ⟨_, r⟩ | ⟨a, rfl, o⟩
  · exact r n rfl
  · exact o.elim
theorem ints_of : ∀ {ds : List D} {xs : List V} {ns : List Int}, RepL K ι F xs ds → intsOf ds = some ns → xs = ns.map V.int
  | [], _, _, r, h => by cases r; simp [intsOf] at h; subst h; rfl
  | d :: ds, _, ns, r, h => by
    cases r with
    | cons r1 r2 =>
      cases d with
      | int i =>
        simp only [intsOf, Option.map_eq_some_iff] at h
        obtain ⟨ms, h1, rfl⟩ := h
        cases r1
        rw [ints_of r2 h1]; rfl
      | _ => simp [intsOf] at h
theorem bools_of : ∀ {ds : List D} {xs : List V} {ns : List Bool}, RepL K ι F xs ds → boolsOf ds = some ns → xs = ns.map V.bl
  | [], _, _, r, h => by cases r; simp [boolsOf] at h; subst h; rfl
  | d :: ds, _, ns, r, h => by
    cases r with
    | cons r1 r2 =>
      cases d with
      | bl i =>
        simp only [boolsOf, Option.map_eq_some_iff] at h
        obtain ⟨ms, h1, rfl⟩ := h
        cases r1
        rw [bools_of r2 h1]; rfl
      | _ => simp [boolsOf] at h
theorem flat_rep {v : V} {d : D} (h : flatD d = true) (r : Rep K ι F v d) : flatV v = true := by
  cases d <;> simp [flatD] at h <;> (cases r; rfl)
theorem flat_eq {v w : V} {d e : D} (h : flatD d = true) (h' : flatD e = true) (r : Rep K ι F v d) (r' : Rep K ι F w e) : eqV v w = eqD d e := by
  cases d <;> simp [flatD] at h <;> cases e <;> simp [flatD] at h' <;> (cases r; cases r'; simp [eqV, eqD, arr_beq])
theorem flats_rep {ds : List D} {xs : List V} (h : ds.all flatD = true) (r : RepL K ι F xs ds) : xs.all flatV = true := by
  induction ds generalizing xs with
  | nil => cases r; rfl
  | cons d ds ih =>
    cases r with
    | cons r1 r2 =>
      simp only [List.all_cons, Bool.and_eq_true] at h ⊢
      exact ⟨flat_rep h.1 r1, ih h.2 r2⟩
theorem in_flat {ds : List D} {xs : List V} {v : V} {d : D} (h : ds.all flatD = true) (r : RepL K ι F xs ds) (h' : flatD d = true) (r' : Rep K ι F v d) : inV v xs = ds.any fun y => eqD y d := by
  induction ds generalizing xs with
  | nil => cases r; rfl
  | cons e ds ih =>
    cases r with
    | cons r1 r2 =>
      simp only [List.all_cons, Bool.and_eq_true] at h
      have ih' := ih h.2 r2
      unfold inV at ih' ⊢
      rw [List.any_cons, List.any_cons, ih', flat_eq h.1 h' r1 r']
end
theorem any_eqv : ∀ {ds : List D} {n m : Nat} {d : D}, okDs n ds = true → okD m d = true → ((pys ds).any fun z => PyData.eqv z (py d)) = ds.any fun y => eqD y d
  | [], _, _, _, _, _ => rfl
  | e :: ds, n, m, d, h, k => by
    simp only [okDs, Bool.and_eq_true] at h
    simp only [pys, List.any_cons]
    rw [eqv_of e d n m h.1 k, any_eqv h.2 k]
theorem okD_up : ∀ {n m : Nat} {d : D}, okD n d = true → n ≤ m → okD m d = true := by
  intro n
  induction n with
  | zero => intro m d h _; cases m <;> cases d <;> simp_all [okD]
  | succ n ih =>
    have ihs : ∀ {ds : List D} {m : Nat}, okDs n ds = true → n ≤ m → okDs m ds = true := by
      intro ds
      induction ds with
      | nil => intro m _ _; cases m <;> rfl
      | cons d ds ih2 =>
        intro m h hm
        simp only [okDs, Bool.and_eq_true] at h ⊢
        exact ⟨ih h.1 hm, ih2 h.2 hm⟩
    intro m d h hm
    obtain ⟨m, rfl⟩ : ∃ k, m = k + 1 := ⟨m - 1, by omega⟩
    cases d <;> simp_all [okD] <;> exact ihs h (by omega)
section
variable {X : Cx} {ι : List Addr} {F H : Hp} {S : Sto} {OA : Addr → Prop} {Q : VK} {v w : V} {d e : D}
def Fin (X : Cx) (OA : Addr → Prop) (ι : List Addr) (F H : Hp) (S : Sto) (r : R) (Q : VK) : Prop :=
  ∀ v ι' F' H', Stp NoO ι F H ι' F' H' → Good X.K ι' F' H' S → ResOk X.K OA H ι' F' H' v r → Q v H'
theorem Fin.val (g : Good X.K ι F H S) (h : Fin X OA ι F H S (.val d) Q) (r : Rep X.K ι F v d) : Q v H := h v ι F H .refl g r
theorem Good.notin (g : Good X.K ι F H S) {p : Addr} (hp : H p = none) : p ∉ ι := fun hi => by
  obtain ⟨n, hn⟩ := List.mem_iff_getElem?.mp hi
  have hl : n < S.length := by
    rw [← g.len]
    rcases Nat.lt_or_ge n ι.length with q | q
    · exact q
    · rw [List.getElem?_eq_none q] at hn; cases hn
  obtain ⟨_, o⟩ := g.cells n p _ hn (List.getElem?_eq_getElem hl)
  obtain ⟨u, hu⟩ := o.live
  rw [hp] at hu; cases hu
theorem stp_newF {ι : List Addr} {F H : Hp} {p : Addr} {o : HO} (hf : F p = none) (hp : H p = none) : Stp NoO ι F H ι (upd F p o) (upd H p o) :=
  ⟨.refl, sub_upd hf, fun a u h n => (by
    by_cases e : a = p
    · subst e; exact .inl hp
    · rw [upd_ne e, n] at h; cases h), fun _ h n => (n h).elim, fun a u h _ _ => (by rw [upd_ne (ne_of_none h hp)]; exact h), fun a u h => ⟨u, by rw [upd_ne (ne_of_none h hp)]; exact h⟩⟩
theorem Fin.tup (g : Good X.K ι F H S) {ds : List D} (h : Fin X OA ι F H S (.val (.tup ds)) Q) {xs : List V} (r : RepL X.K ι F xs ds) {p : Addr} (hp : H p = none) : Q (.ref p) (upd H p (.tup xs)) := by
  have hf := sub_new (o := .tup xs) g.sub hp
  exact h _ ι (upd F p (.tup xs)) _ (stp_newF hf hp) ((g.new hp).freeze upd_same (g.notin hp) hf) (.tup (SqT.of upd_same) (r.up .refl (sub_upd hf)))
theorem Fin.lst (g : Good X.K ι F H S) {ds : List D} (h : Fin X OA ι F H S (.new (.lst ds)) Q) {xs : List V} (r : RepL X.K ι F xs ds) {p : Addr} (hp : H p = none) : Q (.ref p) (upd H p (.lst xs)) :=
  h _ ι F _ (stp_new hp) (g.new hp) ⟨p, rfl, hp, sub_new (o := .lst xs) g.sub hp, g.notin hp, xs, upd_same, r⟩
theorem bin_ok {op : Bop} {r : R} (g : Good X.K ι F H S) (hu : X.A.units + 65 < cLine) (rv : View X.K ι F H v d) (rw_ : View X.K ι F H w e) (hb : binD op d e = some r) (h : Fin X OA ι F H S r Q) :
    WOp X (binaryOp (match op with | .add => .Add | .sub => .Sub | .mul => .Mult | .mod => .Mod | .fdv => .FloorDiv | .pow => .Pow | .shr => .RShift | .shl => .LShift)) v w H Q := by
  cases d with
  | int i =>
    obtain rfl := rv.int
    cases e with
    | int j =>
      obtain rfl := rw_.int
      cases op with
      | add => simp [binD] at hb; subst hb; exact ⟨_, op_add, i, j, rfl, rfl, Fin.val g h (.int _)⟩
      | sub => simp [binD] at hb; subst hb; exact ⟨_, op_sub, i, j, rfl, rfl, Fin.val g h (.int _)⟩
      | mul =>
        simp only [binD] at hb
        split at hb
        · rename_i hc
          cases hb
          refine ⟨_, op_mul, i, j, rfl, rfl, ?_, Fin.val g h (.int _)⟩
          rcases hc with hc | hc
          · exact .inl (by omega)
          · exact .inr (by omega)
        · cases hb
      | mod =>
        simp only [binD] at hb
        split at hb
        · rename_i hc; cases hb; exact ⟨_, op_mod, i, j, rfl, rfl, hc, Fin.val g h (.int _)⟩
        · cases hb
      | fdv =>
        simp only [binD] at hb
        split at hb
        · rename_i hc; cases hb; exact ⟨_, op_fdiv, i, j, rfl, rfl, hc, Fin.val g h (.int _)⟩
        · cases hb
      | pow =>
        simp only [binD] at hb
        split at hb
        · rename_i hc; cases hb; exact ⟨_, op_pow, i, j, rfl, rfl, hc, Fin.val g h (.int _)⟩
        · cases hb
      | shr =>
        simp only [binD] at hb
        split at hb
        · rename_i hc; cases hb; exact ⟨_, op_shr, i, j, rfl, rfl, hc, Fin.val g h (.int _)⟩
        · cases hb
      | shl =>
        simp only [binD] at hb
        split at hb
        · rename_i hc; cases hb; exact ⟨_, op_shl, i, j, rfl, rfl, hc, Fin.val g h (.int _)⟩
        · cases hb
    | _ => cases op <;> simp [binD] at hb
  | str x =>
    obtain rfl := rv.str
    cases e with
    | str y =>
      obtain rfl := rw_.str
      cases op with
      | add =>
        simp only [binD] at hb
        split at hb
        · rename_i hc
          cases hb
          refine ⟨_, op_add_str, _, _, rfl, rfl, ?_, ?_⟩
          · simpa [Str.length] using hc
          · have e : ((⟨x.toArray⟩ : Str) ++ (⟨y.toArray⟩ : Str)) = ⟨(x ++ y).toArray⟩ := by
              show Str.append _ _ = _
              simp [Str.append]
            rw [e]
            exact Fin.val g h (.str _)
        · cases hb
      | _ => simp [binD] at hb
    | _ => cases op <;> simp [binD] at hb
  | tup x =>
    obtain ⟨a, xs, rfl, sx, rx, fx⟩ := rv.tup g.sub
    cases e with
    | tup y =>
      obtain ⟨b, ys, rfl, sy, ry, fy⟩ := rw_.tup g.sub
      cases op with
      | add =>
        simp only [binD] at hb
        split at hb
        · rename_i hc
          cases hb
          refine ⟨_, op_catA, a, b, xs, ys, rfl, rfl, sx, sy, by rw [rx.length, ry.length]; exact hc, fun z => ?_, fun _ z => ?_, fun _ _ p hp => Fin.tup g h (rx.append ry) hp⟩
          · subst z; cases rx; exact Fin.val g h (.tup fy ry)
          · subst z; cases ry; refine Fin.val g h ?_; rw [List.append_nil]; exact .tup fx rx
        · cases hb
      | _ => simp [binD] at hb
    | _ => cases op <;> simp [binD] at hb
  | lst x =>
    obtain ⟨a, xs, rfl, sx, rx⟩ := rv.lst g.sub
    cases e with
    | lst y =>
      obtain ⟨b, ys, rfl, sy, ry⟩ := rw_.lst g.sub
      cases op with
      | add =>
        simp only [binD] at hb
        split at hb
        · rename_i hc
          cases hb
          exact ⟨_, op_cat, a, b, xs, ys, rfl, rfl, sx, sy, by rw [rx.length, ry.length]; exact hc, fun p hp => Fin.lst g h (rx.append ry) hp⟩
        · cases hb
      | _ => simp [binD] at hb
    | _ => cases op <;> simp [binD] at hb
  | _ => cases op <;> cases e <;> simp [binD] at hb
theorem neg_ok (g : Good X.K ι F H S) (rv : View X.K ι F H v d) (hb : negD d = some e) (h : Fin X OA ι F H S (.val e) Q) : WUn X (unaryOp .USub) v H Q := by
  cases d with
  | int i =>
    obtain rfl := rv.int
    simp [negD] at hb
    subst hb
    exact ⟨_, un_neg, i, rfl, Fin.val g h (.int _)⟩
  | _ => simp [negD] at hb
theorem lt_ok {b : Bool} (hu : X.A.units + 65 < cLine) (s : Sub F H) (rv : View X.K ι F H v d) (rw_ : View X.K ι F H w e) (hb : ltD d e = some b) (h : Q (.bl b) H) : WOp X (compareOp .Lt) v w H Q := by
  cases d with
  | int i =>
    obtain rfl := rv.int
    cases e with
    | int j => obtain rfl := rw_.int; simp only [ltD, Option.some.injEq] at hb; subst hb; exact ⟨_, op_lt, i, j, rfl, rfl, h⟩
    | _ => simp [ltD] at hb
  | str x =>
    obtain rfl := rv.str
    cases e with
    | str y => obtain rfl := rw_.str; simp only [ltD, Option.some.injEq] at hb; subst hb; exact ⟨_, op_lt_str, _, _, rfl, rfl, h⟩
    | _ => simp [ltD] at hb
  | tup x =>
    cases e with
    | tup y =>
      obtain ⟨a, xs, rfl, sx, rx, _⟩ := rv.tup s
      obtain ⟨b', ys, rfl, sy, ry, _⟩ := rw_.tup s
      simp only [ltD] at hb
      split at hb
      · rename_i ns ms h1 h2
        cases hb
        obtain rfl := ints_of rx h1
        obtain rfl := ints_of ry h2
        exact ⟨_, op_ltT (by omega), a, b', ns, ms, rfl, rfl, sx, sy, h⟩
      · cases hb
    | _ => simp [ltD] at hb
  | _ => cases e <;> simp [ltD] at hb
theorem in_ok {b : Bool} (hu : X.A.units + 65 < cLine) (s : Sub F H) (rv : View X.K ι F H v d) (rw_ : View X.K ι F H w e) (hb : inD d e = some b) (h1 : Q (.bl b) H) : WOp X (compareOp .In) v w H Q := by
  cases e with
  | lst ys =>
    simp only [inD] at hb
    split at hb
    · rename_i hc
      cases hb
      simp only [Bool.and_eq_true] at hc
      have k64 : okD 64 (.lst ys) = true := by simpa [okD] using hc.2
      have p := dpv_of s hc.1 rv
      have q := dpv_of s k64 rw_
      simp only [py] at q
      refine ⟨_, op_inD hu, _, _, p, q, shaped_of (okD_up hc.1 (by omega)), ?_, ?_⟩
      · have := shaped_of k64; simpa [py] using this
      · rw [any_eqv hc.2 hc.1]; exact h1
    · cases hb
  | tup ys =>
    simp only [inD] at hb
    split at hb
    · rename_i hc
      cases hb
      simp only [Bool.and_eq_true] at hc
      obtain ⟨a, xs, rfl, sx, rx, _⟩ := rw_.tup s
      have rv' : Rep X.K ι F v d := by
        rcases rv with ⟨r, _⟩ | ⟨a, rfl, o⟩
        · exact r
        · cases d with
          | lst _ => simp [flatD] at hc
          | _ => exact o.elim
      refine ⟨_, op_in_seq, a, xs, rfl, .inr sx, flat_rep hc.1 rv', flats_rep hc.2 rx, ?_⟩
      rw [if_neg (by simp), in_flat hc.2 rx hc.1 rv']
      exact h1
    · cases hb
  | str y =>
    cases d with
    | str x =>
      match x, hb with
      | [c], hb =>
        obtain rfl := rv.str
        obtain rfl := rw_.str
        simp only [inD, Option.some.injEq] at hb
        subst hb
        exact ⟨_, op_in_sign, c, _, rfl, rfl, h1⟩
      | [], hb => simp [inD] at hb
      | _ :: _ :: _, hb => simp [inD] at hb
    | _ => simp [inD] at hb
  | _ => cases d <;> simp [inD] at hb
theorem nin_ok {b : Bool} (hu : X.A.units + 65 < cLine) (s : Sub F H) (rv : View X.K ι F H v d) (rw_ : View X.K ι F H w e) (hb : inD d e = some b) (h1 : Q (.bl (!b)) H) : WOp X (compareOp .NotIn) v w H Q := by
  cases e with
  | lst ys =>
    simp only [inD] at hb
    split at hb
    · rename_i hc
      cases hb
      simp only [Bool.and_eq_true] at hc
      have k64 : okD 64 (.lst ys) = true := by simpa [okD] using hc.2
      have p := dpv_of s hc.1 rv
      have q := dpv_of s k64 rw_
      simp only [py] at q
      refine ⟨_, op_notInD hu, _, _, p, q, shaped_of (okD_up hc.1 (by omega)), ?_, ?_⟩
      · have := shaped_of k64; simpa [py] using this
      · rw [any_eqv hc.2 hc.1]; exact h1
    · cases hb
  | tup ys =>
    simp only [inD] at hb
    split at hb
    · rename_i hc
      cases hb
      simp only [Bool.and_eq_true] at hc
      obtain ⟨a, xs, rfl, sx, rx, _⟩ := rw_.tup s
      have rv' : Rep X.K ι F v d := by
        rcases rv with ⟨r, _⟩ | ⟨a, rfl, o⟩
        · exact r
        · cases d with
          | lst _ => simp [flatD] at hc
          | _ => exact o.elim
      refine ⟨_, op_notIn_seq, a, xs, rfl, .inr sx, flat_rep hc.1 rv', flats_rep hc.2 rx, ?_⟩
      rw [if_pos rfl, in_flat hc.2 rx hc.1 rv']
      exact h1
    · cases hb
  | str y =>
    cases d with
    | str x =>
      match x, hb with
      | [c], hb =>
        obtain rfl := rv.str
        obtain rfl := rw_.str
        simp only [inD, Option.some.injEq] at hb
        subst hb
        exact ⟨_, op_notIn_sign, c, _, rfl, rfl, h1⟩
      | [], hb => simp [inD] at hb
      | _ :: _ :: _, hb => simp [inD] at hb
    | _ => simp [inD] at hb
  | _ => cases d <;> simp [inD] at hb
theorem isnon {d : D} (s : Sub F H) (rv : View X.K ι F H v d) : decide (v = .non) = isNon d := by
  rcases rv with ⟨r, _⟩ | ⟨a, rfl, o⟩
  · cases r <;> simp [isNon]
  · cases d with
    | lst _ => simp [isNon]
    | _ => exact o.elim
def cop : Cop → CmpOp
  | .eq => .Eq | .ne => .NotEq | .lt => .Lt | .le => .LtE | .gt => .Gt | .ge => .GtE | .is => .Is | .isn => .IsNot | .inn => .In | .nin => .NotIn
theorem cmp_ok {op : Cop} {b : Bool} (hu : X.A.units + 65 < cLine) (s : Sub F H) (rv : View X.K ι F H v d) (rw_ : View X.K ι F H w e) (hb : cmpD op d e = some b) (h : Q (.bl b) H) : WOp X (compareOp (cop op)) v w H Q := by
  cases op with
  | eq =>
    simp only [cmpD] at hb
    split at hb
    · rename_i hc
      cases hb
      simp only [Bool.and_eq_true] at hc
      exact ⟨_, op_eqD (by omega), _, _, dpv_of s hc.1 rv, dpv_of s hc.2 rw_, shaped_of hc.1, shaped_of hc.2, by rw [eqv_of d e _ _ hc.1 hc.2]; exact h⟩
    · cases hb
  | ne =>
    simp only [cmpD] at hb
    split at hb
    · rename_i hc
      cases hb
      simp only [Bool.and_eq_true] at hc
      exact ⟨_, op_neD (by omega), _, _, dpv_of s hc.1 rv, dpv_of s hc.2 rw_, shaped_of hc.1, shaped_of hc.2, by rw [eqv_of d e _ _ hc.1 hc.2]; exact h⟩
    · cases hb
  | lt => simp only [cmpD] at hb; exact lt_ok hu s rv rw_ hb h
  | le =>
    cases d <;> cases e <;> simp [cmpD] at hb
    obtain rfl := rv.int
    obtain rfl := rw_.int
    subst hb
    exact ⟨_, op_le, _, _, rfl, rfl, h⟩
  | gt =>
    cases d <;> cases e <;> simp [cmpD] at hb
    obtain rfl := rv.int
    obtain rfl := rw_.int
    subst hb
    exact ⟨_, op_gt, _, _, rfl, rfl, h⟩
  | ge =>
    cases d <;> cases e <;> simp [cmpD] at hb
    obtain rfl := rv.int
    obtain rfl := rw_.int
    subst hb
    exact ⟨_, op_ge, _, _, rfl, rfl, h⟩
  | is =>
    have hn := isnon s rv
    cases e with
    | non =>
      simp only [cmpD, Option.some.injEq] at hb
      refine ⟨_, op_isN, rw_.non, ?_⟩
      rw [hn, hb]; exact h
    | _ => simp [cmpD] at hb
  | isn =>
    have hn := isnon s rv
    cases e with
    | non =>
      simp only [cmpD, Option.some.injEq] at hb
      refine ⟨_, op_notN, rw_.non, ?_⟩
      rw [hn, hb]; exact h
    | _ => simp [cmpD] at hb
  | inn => simp only [cmpD] at hb; exact in_ok hu s rv rw_ hb h
  | nin =>
    simp only [cmpD, Option.map_eq_some_iff] at hb
    obtain ⟨b', h1, rfl⟩ := hb
    exact nin_ok hu s rv rw_ h1 h
theorem tru_ok' {b : Bool} (s : Sub F H) (rv : View X.K ι F H v d) (hb : truD d = some b) : TruV X.K v H b := by
  have emp : ∀ {xs : List V} {ds : List D}, RepL X.K ι F xs ds → (!ds.isEmpty) = !xs.isEmpty := fun r => by cases r <;> rfl
  cases d with
  | non => obtain rfl := rv.non; simp only [truD, Option.some.injEq] at hb; exact (show b = false from hb.symm)
  | bl i => obtain rfl := rv.bl; simp only [truD, Option.some.injEq] at hb; exact (show b = i from hb.symm)
  | int i => obtain rfl := rv.int; simp only [truD, Option.some.injEq] at hb; exact (show b = (i != 0) from hb.symm)
  | str x =>
    obtain rfl := rv.str
    simp only [truD] at hb
    split at hb
    · rename_i hc
      cases hb
      refine ⟨by simpa [Str.length] using hc, ?_⟩
      cases x <;> simp [Str.length]
      omega
    · cases hb
  | tup ds =>
    obtain ⟨a, xs, rfl, sx, rx, _⟩ := rv.tup s
    simp only [truD, Option.some.injEq] at hb
    exact .inr (.inl ⟨xs, sx, by rw [← hb, emp rx]⟩)
  | lst ds =>
    obtain ⟨a, xs, rfl, sx, rx⟩ := rv.lst s
    simp only [truD, Option.some.injEq] at hb
    exact .inl ⟨xs, SqL.of sx, by rw [← hb, emp rx]⟩
  | _ => simp [truD] at hb
theorem at_rep {xs : List V} {ds : List D} {i : Int} (r : RepL X.K ι F xs ds) (h : atI ds i = some d) : ∃ v, atI xs i = some v ∧ Rep X.K ι F v d := by
  unfold atI at h ⊢
  rw [r.length]
  cases e : ixN ds.length i with
  | none => rw [e] at h; cases h
  | some j => rw [e] at h; exact r.get h
theorem ix_ok {q : D} (g : Good X.K ι F H S) (rv : View X.K ι F H v d) (rw_ : View X.K ι F H w e) (hb : ixD d e = some q) (h : Fin X OA ι F H S (.val q) Q) : WIx X v w H Q := by
  cases e with
  | int i =>
    obtain rfl := rw_.int
    cases d with
    | tup ds =>
      obtain ⟨a, xs, rfl, sx, rx, _⟩ := rv.tup g.sub
      obtain ⟨v, h1, h2⟩ := at_rep rx hb
      exact ⟨_, ix_tup, a, xs, i, v, rfl, rfl, sx, h1, Fin.val g h h2⟩
    | lst ds =>
      obtain ⟨a, xs, rfl, sx, rx⟩ := rv.lst g.sub
      obtain ⟨v, h1, h2⟩ := at_rep rx hb
      exact ⟨_, ix_list, a, xs, i, v, rfl, rfl, SqL.of sx, h1, Fin.val g h h2⟩
    | fz ds =>
      obtain ⟨a, xs, rfl, sx, rx⟩ := rv.fz g.sub
      obtain ⟨v, h1, h2⟩ := at_rep rx hb
      exact ⟨_, ix_list, a, xs, i, v, rfl, rfl, sx, h1, Fin.val g h h2⟩
    | str x =>
      obtain rfl := rv.str
      simp only [ixD] at hb
      split at hb
      · rename_i hc
        simp only [Option.map_eq_some_iff] at hb
        obtain ⟨c, h1, rfl⟩ := hb
        exact ⟨_, ix_str, _, i, c, rfl, rfl, by simpa [Str.length] using hc, h1, Fin.val g h (.str _)⟩
      · cases hb
    | _ => simp [ixD] at hb
  | _ => cases d <;> simp [ixD] at hb
theorem sIx_full {n : Nat} {lo hi : Option Int} {α : Type} {xs : List α} (hn : xs.length = n) (h : HT.sIx n 0 lo = 0 ∧ HT.sIx n n hi = n) : (xs.drop (HT.sIx n 0 lo)).take (HT.sIx n n hi - HT.sIx n 0 lo) = xs := by
  rw [h.1, h.2]; simp [← hn]
theorem sl_ok {r : R} {lo hi : Option Int} (g : Good X.K ι F H S) (rv : View X.K ι F H v d) (hb : slD d lo hi = some r) (h : Fin X OA ι F H S r Q) : WSl X v lo hi H Q := by
  cases d with
  | tup ds =>
    obtain ⟨a, xs, rfl, sx, rx, fx⟩ := rv.tup g.sub
    simp only [slD, Option.some.injEq] at hb
    subst hb
    refine ⟨_, sl_tupA, a, xs, rfl, sx, fun z => ?_, fun _ p hp => Fin.tup g h (rx.cut lo hi) hp⟩
    refine Fin.val g h ?_
    have e : cut ds lo hi = ds := by unfold cut; rw [← rx.length]; exact sIx_full rx.length.symm z
    rw [e]; exact .tup fx rx
  | lst ds =>
    obtain ⟨a, xs, rfl, sx, rx⟩ := rv.lst g.sub
    simp only [slD, Option.some.injEq] at hb
    subst hb
    exact ⟨_, sl_list, a, xs, rfl, SqL.of sx, fun p hp => Fin.lst g h (rx.cut lo hi) hp⟩
  | str x =>
    obtain rfl := rv.str
    simp only [slD] at hb
    split at hb
    · rename_i hc
      cases hb
      refine ⟨_, sl_str, _, rfl, by simpa [Str.length] using hc, ?_⟩
      have e : cutS ⟨x.toArray⟩ lo hi = ⟨(cut x lo hi).toArray⟩ := by unfold cutS cut; simp [Str.length]
      rw [e]; exact Fin.val g h (.str _)
    · cases hb
  | _ => simp [slD] at hb
def biV : Bi → Value
  | .len => .builtin "len" | .all => .builtin "all" | .any => .builtin "any" | .sum => .builtin "sum" | .tuple => .type "tuple" | .list => .type "list"
theorem bi_ok {b : Bi} {r : R} (hc : X.calm = true) (g : Good X.K ι F H S) (rv : View X.K ι F H v d) (hb : biD b d = some r) (h : Fin X OA ι F H S r Q) : WCall X (biV b) [v] H Q := by
  cases b with
  | len =>
    cases d with
    | tup ds =>
      obtain ⟨a, xs, rfl, sx, rx, fx⟩ := rv.tup g.sub
      simp only [biD, Option.some.injEq] at hb
      subst hb
      exact ⟨_, call_len_seq, a, xs, rfl, .inr sx, by rw [rx.length]; exact Fin.val g h (.int _)⟩
    | lst ds =>
      obtain ⟨a, xs, rfl, sx, rx⟩ := rv.lst g.sub
      simp only [biD, Option.some.injEq] at hb
      subst hb
      exact ⟨_, call_len_seq, a, xs, rfl, .inl (SqL.of sx), by rw [rx.length]; exact Fin.val g h (.int _)⟩
    | fz ds =>
      obtain ⟨a, xs, rfl, sx, rx⟩ := rv.fz g.sub
      simp only [biD, Option.some.injEq] at hb
      subst hb
      exact ⟨_, call_len_seq, a, xs, rfl, .inl sx, by rw [rx.length]; exact Fin.val g h (.int _)⟩
    | str x =>
      obtain rfl := rv.str
      simp only [biD] at hb
      split at hb
      · rename_i hc
        cases hb
        exact ⟨_, call_len_str, _, rfl, by simpa [Str.length] using hc, by simpa [Str.length] using Fin.val g h (.int _)⟩
      · cases hb
    | _ => simp [biD] at hb
  | all =>
    cases d with
    | lst ds =>
      obtain ⟨a, xs, rfl, sx, rx⟩ := rv.lst g.sub
      simp only [biD, Option.map_eq_some_iff] at hb
      obtain ⟨bs, h1, rfl⟩ := hb
      obtain rfl := bools_of rx h1
      exact ⟨_, cr_all hc, a, bs, rfl, SqL.of sx, Fin.val g h (.bl _)⟩
    | _ => simp [biD] at hb
  | any =>
    cases d with
    | lst ds =>
      obtain ⟨a, xs, rfl, sx, rx⟩ := rv.lst g.sub
      simp only [biD, Option.map_eq_some_iff] at hb
      obtain ⟨bs, h1, rfl⟩ := hb
      obtain rfl := bools_of rx h1
      exact ⟨_, cr_any hc, a, bs, rfl, SqL.of sx, Fin.val g h (.bl _)⟩
    | _ => simp [biD] at hb
  | sum =>
    cases d with
    | lst ds =>
      obtain ⟨a, xs, rfl, sx, rx⟩ := rv.lst g.sub
      simp only [biD, Option.map_eq_some_iff] at hb
      obtain ⟨bs, h1, rfl⟩ := hb
      obtain rfl := ints_of rx h1
      exact ⟨_, cr_sum hc, a, bs, rfl, SqL.of sx, Fin.val g h (.int _)⟩
    | _ => simp [biD] at hb
  | tuple =>
    cases d with
    | tup ds =>
      obtain ⟨a, xs, rfl, sx, rx, fx⟩ := rv.tup g.sub
      simp only [biD, Option.some.injEq] at hb
      subst hb
      exact ⟨_, call_tuple_of, a, xs, rfl, .inr ⟨sx, Fin.val g h (.tup fx rx)⟩⟩
    | lst ds =>
      obtain ⟨a, xs, rfl, sx, rx⟩ := rv.lst g.sub
      simp only [biD, Option.some.injEq] at hb
      subst hb
      exact ⟨_, call_tuple_of, a, xs, rfl, .inl ⟨SqL.of sx, fun p hp => Fin.tup g h rx hp⟩⟩
    | _ => simp [biD] at hb
  | list =>
    cases d with
    | tup ds =>
      obtain ⟨a, xs, rfl, sx, rx, fx⟩ := rv.tup g.sub
      simp only [biD, Option.some.injEq] at hb
      subst hb
      exact ⟨_, call_list_of, a, xs, rfl, .inr sx, fun p hp => Fin.lst g h rx hp⟩
    | lst ds =>
      obtain ⟨a, xs, rfl, sx, rx⟩ := rv.lst g.sub
      simp only [biD, Option.some.injEq] at hb
      subst hb
      exact ⟨_, call_list_of, a, xs, rfl, .inl (SqL.of sx), fun p hp => Fin.lst g h rx hp⟩
    | _ => simp [biD] at hb
def tyS : Ty → String
  | .int => "int" | .bool => "bool" | .str => "str" | .tuple => "tuple" | .list => "list" | .dict => "dict"
def clsD : D → Option String
  | .non => some "NoneType" | .bl _ => some "bool" | .int _ => some "int" | .str _ => some "str" | .tup _ => some "tuple" | .lst _ => some "list"
  | _ => none
theorem cls_ok {n : String} (s : Sub F H) (rv : View X.K ι F H v d) (h : clsD d = some n) : TyX X.K H v (.type n) := by
  cases d with
  | non => obtain rfl := rv.non; cases h; exact .base .non
  | bl i => obtain rfl := rv.bl; cases h; exact .base (.bl _)
  | int i => obtain rfl := rv.int; cases h; exact .base (.int _)
  | str i => obtain rfl := rv.str; cases h; exact .base (.str _)
  | tup ds =>
    obtain ⟨a, xs, rfl, sx, rx, fx⟩ := rv.tup s
    cases h
    rcases sx with (e | ⟨o, e⟩) | ⟨o, its, m, e, c, _⟩
    · exact .base (.tup e)
    · exact .fTuple e
    · exact .kTuple e c
  | lst ds =>
    obtain ⟨a, xs, rfl, sx, rx⟩ := rv.lst s
    cases h
    exact .base (.lst sx)
  | _ => simp [clsD] at h
theorem isD_kit {b : Bool} {n : String} {t : Ty} (h : isD d t = some b) (hn : clsD d = some n) : PySem.W.kitOne X.K (.type n) (.type (tyS t)) = some b := by
  refine kit_ty ?_
  cases d <;> simp [clsD] at hn <;> subst hn <;> cases t <;> simp [isD] at h <;> subst h <;> decide +kernel
theorem isD_cls {b : Bool} {t : Ty} {n : Nat} (h : isD d t = some b) (hd : ∀ ks vs, d ≠ .dct ks vs) : ∃ n, clsD d = some n := by
  cases d <;> first | exact ⟨_, rfl⟩ | exact (hd _ _ rfl).elim | simp [isD] at h
theorem isDs_kit {n : String} (hn : clsD d = some n) : ∀ {ts : List Ty} {b : Bool}, isDs d ts = some b → PySem.W.kitAny X.K (.type n) (ts.map fun t => .type (tyS t)) = some b
  | [], b, h => by simp [isDs] at h; subst h; exact kitAny_nil
  | t :: ts, b, h => by
    simp only [isDs] at h
    cases e : isD d t with
    | none => rw [e] at h; cases h
    | some c =>
      rw [e] at h
      cases c with
      | true => cases h; exact kitAny_cons (isD_kit e hn) (fun z => nomatch z) fun _ => rfl
      | false => exact kitAny_cons (isD_kit e hn) (fun _ => isDs_kit hn h) fun z => nomatch z
end
end Ds
namespace Ds
open PySem PySem.Spec PyProof.Rows L2
structure Tb where
  N : List Str
  nm : List (Str × NameKind)
  st : List Str
  cs : List (Str × D)
  fns : List Str
  bl : List Str
  fz : List (Nat × List Nat) := []
  nw : List Nat := []
def isVis : Option NameKind → Bool
  | some .local => true
  | some .cell => true
  | some .free => true
  | _ => false
def isOwn : NameKind → Bool
  | .local => true
  | .cell => true
  | _ => false
def isGl : Option NameKind → Bool
  | some .globalImplicit => true
  | _ => false
def slotOf (N : List Str) (x : Str) : Option Nat := (List.range N.length).find? fun i => decide (N[i]? = some x)
theorem slotOf_get {N : List Str} {x : Str} {i : Nat} (h : slotOf N x = some i) : N[i]? = some x := by
  have := List.find?_some h
  exact of_decide_eq_true this
def dbg (x : Str) : Bool := (x == ("__debug__" : Str)) || (x == ("__classdict__" : Str)) || (x == ("__name__" : Str))
def bopOf : Operator → Option Bop
  | .Add => some .add | .Sub => some .sub | .Mult => some .mul | .Mod => some .mod | .FloorDiv => some .fdv | .Pow => some .pow | .RShift => some .shr | .LShift => some .shl | _ => none
def copOf : CmpOp → Cop
  | .Eq => .eq | .NotEq => .ne | .Lt => .lt | .LtE => .le | .Gt => .gt | .GtE => .ge | .Is => .is | .IsNot => .isn | .In => .inn | .NotIn => .nin
theorem cop_copOf (o : CmpOp) : cop (copOf o) = o := by cases o <;> rfl
def litC : Const → Option D
  | .none => some .non | .bool b => some (.bl b) | .int i => some (.int i) | .str x => some (.str x.cps.toList) | _ => none
def biOf (x : Str) : Option Bi :=
  if x = "len" then some .len else if x = "all" then some .all else if x = "any" then some .any else if x = "tuple" then some .tuple else if x = "list" then some .list else if x = "sum" then some .sum else none
def biN : Bi → Str
  | .len => "len" | .all => "all" | .any => "any" | .tuple => "tuple" | .list => "list" | .sum => "sum"
def tyOf (x : Str) : Option Ty :=
  if x = "int" then some .int else if x = "bool" then some .bool else if x = "str" then some .str else if x = "tuple" then some .tuple else if x = "list" then some .list else if x = "dict" then some .dict else none
def trTy (T : Tb) : Expr → Option Ty
  | .Name x _ => if isGl (T.nm.lookup x) && decide (x ∈ T.bl) then tyOf x else none
  | _ => none
def trTys (T : Tb) : List Expr → Option (List Ty)
  | [] => some []
  | e :: es => match trTy T e, trTys T es with
    | some t, some ts => some (t :: ts)
    | _, _ => none
def trNm (T : Tb) : Expr → Option Nat
  | .Name x _ => if decide (x ∈ T.st) && !dbg x then slotOf T.N x else none
  | _ => none
def trNms (T : Tb) : List Expr → Option (List Nat)
  | [] => some []
  | e :: es => match trNm T e, trNms T es with
    | some t, some ts => some (t :: ts)
    | _, _ => none
def trG (T : Tb) : Expr → Option Tg
  | .Tuple es _ _ => (trNms T es).map .tup
  | e => (trNm T e).map .nm
def tgS : Tg → List Nat
  | .nm i => [i]
  | .tup is => is
def ownOf (N : List Str) : List (Str × NameKind) → List (Str × Nat)
  | [] => []
  | (x, k) :: r => match isOwn k, slotOf N x with
    | true, some i => (x, i) :: ownOf N r
    | _, _ => ownOf N r
def relN (nm : List (Str × NameKind)) (names : List (Str × NameKind)) : List (Str × NameKind) :=
  names.map fun (n, k) => if (k == .free && nm.lookup n == some .cell) then (n, .cell) else (n, k)
def inner (T : Tb) (sc : Scope) : Tb := { T with nm := relN T.nm sc.names, st := (sc.names.filter fun y => isOwn y.2).map (·.1) }
def innerOk (T : Tb) (sc : Scope) : Bool :=
  blkC T.N ⟨.function, T.nm, false, false, []⟩ sc (ownOf T.N sc.names) &&
  (inner T sc).st.all fun x => decide ((inner T sc).nm.lookup x = some .local) || (decide ((inner T sc).nm.lookup x = some .cell) && decide (sc.names.lookup x = some .cell))
def starB : Expr → Bool
  | .Starred _ _ => true
  | _ => false
def setB : Expr → Bool
  | .Set _ _ _ => true
  | _ => false
def kwB : List Keyword → Bool
  | [] => false
  | _ => true
def sliceB : Expr → Bool
  | .Slice _ _ _ _ => true
  | _ => false
mutual
def trE (T : Tb) : Nat → Expr → Option Ex
  | 0, _ => none
  | n + 1, e => match e with
    | .Constant c _ _ => (litC c).map .lit
    | .Name x _ => if dbg x then none else if isVis (T.nm.lookup x) then (slotOf T.N x).map .nm else if isGl (T.nm.lookup x) then (T.cs.lookup x).map .lit else none
    | .BinOp a op b _ => match bopOf op, trE T n a, trE T n b with
      | some o, some x, some y => some (.bin o x y)
      | _, _, _ => none
    | .UnaryOp .Not a _ => (trE T n a).map .not
    | .UnaryOp .USub a _ => (trE T n a).map .neg
    | .BoolOp _ [a] _ => trE T n a
    | .BoolOp .And (a :: b :: r) p => match trE T n a, trE T n (.BoolOp .And (b :: r) p) with
      | some x, some y => some (.and x y)
      | _, _ => none
    | .BoolOp .Or (a :: b :: r) p => match trE T n a, trE T n (.BoolOp .Or (b :: r) p) with
      | some x, some y => some (.or x y)
      | _, _ => none
    | .IfExp c a b _ => match trE T n c, trE T n a, trE T n b with
      | some x, some y, some z => some (.ite x y z)
      | _, _, _ => none
    | .Compare a [o] [b] _ => if setB b then none else match trE T n a, trE T n b with
      | some x, some y => some (.cmp (copOf o) x y)
      | _, _ => none
    | .Compare a [o1, o2] [b, c] _ => if setB b || setB c then none else match trE T n a, trE T n b, trE T n c with
      | some x, some y, some z => some (.chn (copOf o1) (copOf o2) x y z)
      | _, _, _ => none
    | .Tuple es _ _ => (trA T n es).map .tup
    | .List es _ => (trA T n es).map .lst
    | .Subscript a (.Slice lo hi none _) _ => match trE T n a, trO T n lo, trO T n hi with
      | some x, some l, some h => some (.sl x l h)
      | _, _, _ => none
    | .Subscript a b _ => if sliceB b then none else match trE T n a, trE T n b with
      | some x, some y => some (.ix x y)
      | _, _ => none
    | .Call (.Name f _) args [] _ => if dbg f || !isGl (T.nm.lookup f) then none else
      match T.fns.findIdx? (· == f) with
      | some k => if args.isEmpty then none else (trA T n args).map (.call k)
      | none => if !decide (f ∈ T.bl) then none else if f = "isinstance" then
          (match args with
          | [a, .Tuple ts _ _] => match trE T n a, trTys T ts with
            | some x, some (t :: l) => if (t :: l).length ≤ 100 then some (.isi x (t :: l)) else none
            | _, _ => none
          | [a, t] => match trE T n a, trTy T t with
            | some x, some l => some (.isi x [l])
            | _, _ => none
          | _ => none)
        else match biOf f, args with
          | some b, [a] => (trE T n a).map (.bi b)
          | _, _ => none
    | .ListComp elt [⟨tg, iter, ifs, 0⟩] sc _ => if innerOk T sc then
        match trE (inner T sc) n elt, trG (inner T sc) tg, trI T n iter, (match ifs with | [] => some Ox.no | [c] => (trE (inner T sc) n c).map Ox.yes | _ => none) with
        | some x, some g, some i, some c => if (tgS g).all fun j => decide (j ∈ (ownOf T.N sc.names).map (·.2)) then some (.lc x ((ownOf T.N sc.names).map (·.2)) g i c) else none
        | _, _, _, _ => none
      else none
    | _ => none
def trA (T : Tb) : Nat → List Expr → Option Exs
  | 0, _ => none
  | _ + 1, [] => some .nil
  | n + 1, e :: es => if starB e then none else match trE T n e, trA T n es with
    | some x, some xs => some (.cons x xs)
    | _, _ => none
def trO (T : Tb) : Nat → Option Expr → Option Ox
  | 0, _ => none
  | _ + 1, none => some .no
  | n + 1, some e => (trE T n e).map .yes
def trI (T : Tb) : Nat → Expr → Option Iy
  | 0, _ => none
  | n + 1, e => match e with
    | .Call (.Name f pf) args kw p => if f = "range" then
        (if !(isGl (T.nm.lookup f) && decide (f ∈ T.bl)) || kwB kw then none else match args with
        | [a] => if starB a then none else (trE T n a).map .rng1
        | [a, b] => if starB a || starB b then none else match trE T n a, trE T n b with
          | some x, some y => some (.rng2 x y)
          | _, _ => none
        | [a, b, c] => if starB a || starB b || starB c then none else match trE T n a, trE T n b, trE T n c with
          | some x, some y, some z => some (.rng3 x y z)
          | _, _, _ => none
        | _ => none)
      else (trE T n (.Call (.Name f pf) args kw p)).map .seq
    | e => if setB e then none else (trE T n e).map .seq
end
end Ds
namespace Ds
open PySem PySem.Spec PyProof.Rows L2
def spF (K : PySem.W.Frag) (C : Orc) (k : Nat) : Sp := fun vs H Q _ => ∃ ι F S ds r S', Good K ι F H S ∧ RepL K ι F vs ds ∧ C k ds S = some (r, S') ∧
  ∀ v ι' F' H', Stp NoO ι F H ι' F' H' → Good K ι' F' H' S' → ResOk K NoO H ι' F' H' v r → Q v H'
structure Ctx (C : Orc) (lev : Nat) (T : Tb) (X : Cx) : Prop where
  N : X.N = T.N
  nd : T.N.Nodup
  nm : X.env.scope.names = T.nm
  kind : X.env.scope.kind = .function
  calm : X.calm = true
  room : Room lev X.A
  xe : X.xe = fun _ _ => False
  st : ∀ x ∈ T.st, Loc X.env.scope x ∧ (X.fn x = true ∨ X.env.scope.names.lookup x = some .local)
  cs : ∀ x d, T.cs.lookup x = some d → ∃ u v, X.mg x = some u ∧ RelV v u ∧ ∀ ι F, Rep X.K ι F v d
  bl : ∀ x ∈ T.bl, X.mg x = none
  call : ∀ k f, T.fns[k]? = some f → ∃ fA fd ps, X.mg f = some (.ref fA) ∧ PySem.W.keepIn X.K (.ref fA) = true ∧ Binds X.K fd ps [] ∧ FnOk X.prog X.w X.K X.mg X.base CX0 lev fA fd ps (spF X.K C k)
section
variable {X : Cx} {OA : Addr → Prop} {ι ι1 : List Addr} {F F1 H H1 : Hp} {S : Sto} {r : R} {Q : VK}
theorem Fin.step (s : Stp NoO ι F H ι1 F1 H1) (h : Fin X OA ι F H S r Q) : Fin X OA ι1 F1 H1 S r Q := fun v ι' F' H' st g q => h v ι' F' H' (s.tr0 st) g (q.back s)
end
theorem look_step {S S1 : Sto} : True := trivial
variable {C : Orc} {lev : Nat}
def SndE (C : Orc) (X : Cx) (e : Expr) (x : Ex) : Prop := ∀ ρ S r S', evE C ρ x S = some (r, S') → ∀ σ ι F H Q, Good X.K ι F H S → Slots X.K ι F H σ ρ → Fin X (OwnA σ ρ) ι F H S' r Q → WE X e σ H Q
def SndT (C : Orc) (X : Cx) (e : Expr) (x : Ex) : Prop := ∀ ρ S r S' b, evE C ρ x S = some (r, S') → truD (look S' r.any) = some b → ∀ σ ι F H Q, Good X.K ι F H S → Slots X.K ι F H σ ρ →
  (∀ ι' F' H', Stp NoO ι F H ι' F' H' → Good X.K ι' F' H' S' → Q b H') → WT X e σ H Q
def WW (X : Cx) (e : Expr) (σ : L2.St) (H : Hp) (Q : Bool → Hp → Prop) : Prop := ∃ t, PW X e t ∧ t σ H Q
def SndA (C : Orc) (X : Cx) (es : List Expr) (xs : Exs) : Prop := ∀ ρ S ds S', evA C ρ xs S = some (ds, S') → ∀ σ ι F H Q, Good X.K ι F H S → Slots X.K ι F H σ ρ →
  (∀ vs ι' F' H', Stp NoO ι F H ι' F' H' → Good X.K ι' F' H' S' → RepL X.K ι' F' vs ds → Q vs H') → WA X es σ H Q
def SndO (C : Orc) (X : Cx) (e : Option Expr) (x : Ox) : Prop := ∀ ρ S o S', evO C ρ x S = some (o, S') → ∀ σ ι F H Q, Good X.K ι F H S → Slots X.K ι F H σ ρ →
  (∀ ι' F' H', Stp NoO ι F H ι' F' H' → Good X.K ι' F' H' S' → Q o H') → WO X e σ H Q
def ItOk (K : PySem.W.Frag) (J : L2.It) (ι : List Addr) (F : Hp) (ds : List D) : Prop := ∀ ι' F' H' S', Pre ι ι' → Sub F F' → Good K ι' F' H' S' →
  (∀ (i : Nat) (d : D), ds[i]? = some d → J.go i H' ∧ ∀ x H'', J.yld i H' x H'' → ∃ F'', Stp NoO ι' F' H' ι' F'' H'' ∧ Good K ι' F'' H'' S' ∧ Rep K ι' F'' x d) ∧ J.stop ds.length H'
def SndI (C : Orc) (X : Cx) (e : Expr) (x : Iy) : Prop := ∀ ρ S ds S', evI C ρ x S = some (ds, S') → ∀ σ ι F H, Good X.K ι F H S → Slots X.K ι F H σ ρ → ∀ tg R,
  (∀ J ι' F' H', Stp NoO ι F H ι' F' H' → Good X.K ι' F' H' S' → ItOk X.K J ι' F' ds → R J H') → WI X tg e σ H R
theorem at_some {α β : Type} {x : Option (α × Sto)} {f : α → Sto → Option β} {y : β} (h : andThen x f = some y) : ∃ a S, x = some (a, S) ∧ f a S = some y := by
  cases x with
  | none => cases h
  | some p => exact ⟨p.1, p.2, rfl, h⟩
theorem ws_some {α : Type} {x : Option α} {S S' : Sto} {y : α} (h : withS x S = some (y, S')) : x = some y ∧ S = S' := by
  cases x with
  | none => cases h
  | some p => cases h; exact ⟨rfl, rfl⟩
section
variable {T : Tb} {X : Cx}
theorem vis_of {nm : List (Str × NameKind)} {sc : Scope} {x : Str} (e : sc.names = nm) (h : isVis (nm.lookup x) = true) : Vis sc x := by
  subst e
  unfold Vis
  cases k : sc.names.lookup x with
  | none => rw [k] at h; cases h
  | some z => rw [k] at h; cases z <;> simp_all [isVis]
theorem gl_of {x : Str} (c : Ctx C lev T X) (h : isGl (T.nm.lookup x) = true) : Gl X x := by
  unfold Gl Env.kindOf
  rw [c.nm]
  cases k : T.nm.lookup x with
  | none => rw [k] at h; cases h
  | some z => rw [k] at h; cases z <;> simp_all [isGl]
theorem dbg1 {x : Str} (h : dbg x = false) : (x == ("__debug__" : Str)) = false ∧ (x == ("__classdict__" : Str)) = false ∧ x ≠ "__name__" := by
  unfold dbg at h
  simp only [Bool.or_eq_false_iff] at h
  exact ⟨h.1.1, h.1.2, fun e => by have := h.2; rw [e] at this; simp at this⟩
theorem star1 {e : Expr} {es : List Expr} {env : PySem.Env} (h : starB e = false) : starEach (e :: es) env = (false, eval e env) :: starEach es env := by
  cases e <;> first | (simp [starB] at h; done) | simp only [starEach]
theorem nostars {pos : Pos} {env : PySem.Env} : ∀ {es : List Expr}, (∀ e ∈ es, starB e = false) → (backTo pos (starEach es env)).any (·.1) = false
  | [], _ => rfl
  | e :: es, h => by
    rw [star1 (h e (by simp))]
    have ih := nostars (pos := pos) (env := env) (es := es) fun e' he => h e' (by simp [he])
    unfold backTo at ih ⊢
    simp only [List.map_cons, List.any_cons, Bool.false_or]
    exact ih
theorem noset {e : Expr} {env : PySem.Env} {x : Value} (h : setB e = false) : foldedSetIterable e env x = pure x := by
  cases e <;> first | (simp [setB] at h; done) | rfl
theorem nomark' {op : CmpOp} {b : Expr} (h : setB b = false) : behindInMarks op b = false := by
  cases b <;> first | (simp [setB] at h; done) | rfl
theorem plain_ix {b : Expr} (h : sliceB b = false) : PlainIx b := by
  intro o i
  cases b <;> first | (simp [sliceB] at h; done) | rfl
theorem trE_star {n : Nat} {e : Expr} {x : Ex} (h : trE T n e = some x) : starB e = false := by
  cases n with
  | zero => simp [trE] at h
  | succ n => cases e <;> first | rfl | simp [trE] at h
theorem trE_set {n : Nat} {e : Expr} {x : Ex} (h : trE T n e = some x) : setB e = false := by
  cases n with
  | zero => simp [trE] at h
  | succ n => cases e <;> first | rfl | simp [trE] at h
theorem trA_star {n : Nat} : ∀ {es : List Expr} {xs : Exs}, trA T n es = some xs → ∀ e ∈ es, starB e = false := by
  induction n with
  | zero => intro es xs h; simp [trA] at h
  | succ n ih =>
    intro es xs h e he
    cases es with
    | nil => cases he
    | cons a es =>
      simp only [trA] at h
      split at h
      · cases h
      · rename_i hs
        split at h
        · rename_i x1 xs1 h1 h2
          rcases List.mem_cons.mp he with rfl | he
          · simpa using hs
          · exact ih h2 e he
        · cases h
def testB : Expr → Bool
  | .UnaryOp .Not _ _ => true
  | .BoolOp _ _ _ => true
  | .IfExp _ _ _ _ => true
  | .Compare _ _ _ _ => true
  | _ => false
theorem plain_test {e : Expr} (h : testB e = false) {env : PySem.Env} : ∀ whole, isTrue e env whole = (do let v ← whole; standAt e.pos; holding [v] (truthy v)) := by
  intro whole
  cases e <;> first | (simp [testB] at h; done) | rfl | skip
  rename_i op a p
  cases op <;> first | (simp [testB] at h; done) | rfl
end
theorem WW.wt {X : Cx} {e : Expr} {σ : L2.St} {H : Hp} {Q : Bool → Hp → Prop} (h : WW X e σ H Q) : WT X e σ H Q := let ⟨_, p, q⟩ := h; ⟨_, p.pt, q⟩
theorem WW.pw {X : Cx} {e : Expr} : PW X e (WW X e) := ⟨fun wh pins s σ H Q I h => let ⟨_, p, q⟩ := h; p.run wh pins s σ H Q I q⟩
theorem SndE.plain {X : Cx} {e : Expr} {x : Ex} (h : SndE C X e x) (p : testB e = false) : SndT C X e x := fun ρ S r S' b he hb σ ι F H Q g sl k =>
  ⟨_, pt_truth WE.pe (plain_test p), h ρ S r S' he σ ι F H _ g sl fun v ι' F' H' st g' q => ⟨b, tru_ok' g'.sub (q.view g') hb, k ι' F' H' st g'⟩⟩
end Ds
namespace Ds
open PySem PySem.Spec PyProof.Rows L2
variable {C : Orc} {lev : Nat} {T : Tb} {X : Cx} {a b e : Expr} {x y z : Ex} {pos : Pos}
theorem Ctx.hu (c : Ctx C lev T X) : X.A.units + 65 < cLine := by have := c.room.un; omega
theorem snd_lit {k : Const} {n : Nat} {d : D} (h : litC k = some d) : SndE C X (.Constant k n pos) (.lit d) := by
  intro ρ S r S' h' σ ι F H Q g sl q
  simp only [evE, Option.some.injEq, Prod.mk.injEq] at h'
  obtain ⟨rfl, rfl⟩ := h'
  cases k <;> simp [litC] at h <;> subst h
  · exact ⟨_, pe_non, Fin.val g q .non⟩
  · exact ⟨_, pe_bl, Fin.val g q (.bl _)⟩
  · exact ⟨_, pe_int, Fin.val g q (.int _)⟩
  · rename_i s
    refine ⟨_, pe_str, Fin.val g q ?_⟩
    have e : (⟨s.cps.toList.toArray⟩ : Str) = s := by simp
    have := Rep.str (K := X.K) (ι := ι) (F := F) s.cps.toList
    rw [e] at this
    exact this
theorem snd_gl {x : Str} {d : D} (c : Ctx C lev T X) (hd : dbg x = false) (hg : isGl (T.nm.lookup x) = true) (h : T.cs.lookup x = some d) : SndE C X (.Name x pos) (.lit d) := by
  intro ρ S r S' h' σ ι F H Q g sl q
  simp only [evE, Option.some.injEq, Prod.mk.injEq] at h'
  obtain ⟨rfl, rfl⟩ := h'
  obtain ⟨u, v, h1, h2, h3⟩ := c.cs x d h
  exact ⟨_, pe_glob (gl_of c hg) h1 h2 (dbg1 hd).1, Fin.val g q (h3 _ _)⟩
theorem snd_nm {x : Str} {i : Nat} (c : Ctx C lev T X) (hd : dbg x = false) (hv : isVis (T.nm.lookup x) = true) (h : slotOf T.N x = some i) : SndE C X (.Name x pos) (.nm i) := by
  intro ρ S r S' h' σ ι F H Q g sl q
  have hN : X.N[i]? = some x := by rw [c.N]; exact slotOf_get h
  simp only [evE] at h'
  split at h'
  · rename_i d e
    cases h'
    obtain ⟨v, e1, e2⟩ := sl.val i d e
    exact ⟨_, pe_var hN (vis_of c.nm hv) (dbg1 hd).1 (dbg1 hd).2.1, v, e1, Fin.val g q e2⟩
  · rename_i d e
    cases h'
    obtain ⟨ad, e1, f, n, o⟩ := sl.own i d e
    exact ⟨_, pe_var hN (vis_of c.nm hv) (dbg1 hd).1 (dbg1 hd).2.1, .ref ad, e1, q _ ι F H .refl g ⟨ad, rfl, ⟨i, d, e, e1⟩, f, n, o⟩⟩
  · cases h'
theorem snd_bin {op : Operator} {o : Bop} (c : Ctx C lev T X) (ha : SndE C X a x) (hb : SndE C X b y) (ho : bopOf op = some o) : SndE C X (.BinOp a op b pos) (.bin o x y) := by
  intro ρ S r S' h σ ι F H Q g sl k
  simp only [evE] at h
  obtain ⟨r1, S1, h1, h⟩ := at_some h
  obtain ⟨r2, S2, h2, h⟩ := at_some h
  obtain ⟨h3, rfl⟩ := ws_some h
  refine ⟨_, pe_op WOp.or WE.pe WE.pe, ?_⟩
  refine ha ρ S r1 S1 h1 σ ι F H _ g sl fun v1 ι1 F1 H1 st1 g1 q1 => ?_
  refine hb ρ S1 r2 S2 h2 σ ι1 F1 H1 _ g1 (sl.step st1) fun v2 ι2 F2 H2 st2 g2 q2 => ?_
  have := bin_ok g2 c.hu ((q1.step st2).view g2) (q2.view g2) h3 (k.step (st1.tr0 st2))
  cases op <;> simp [bopOf] at ho <;> subst ho <;> exact this
theorem int_neg_view {ι : List Addr} {F H : Hp} {S : Sto} {OA : Addr → Prop} {H0 : Hp} {v : V} {r : R} {e : D} (g : Good X.K ι F H S) (q : ResOk X.K OA H0 ι F H v r) (h : negD r.any = some e) : View X.K ι F H v r.any := by
  have w := q.view g
  cases hr : r.any <;> rw [hr] at h w <;> first | (simp [negD] at h; done) | exact w
theorem snd_neg (c : Ctx C lev T X) (ha : SndE C X a x) : SndE C X (.UnaryOp .USub a pos) (.neg x) := by
  intro ρ S r S' h σ ι F H Q g sl k
  simp only [evE] at h
  obtain ⟨r1, S1, h1, h⟩ := at_some h
  obtain ⟨h3, rfl⟩ := ws_some h
  simp only [Option.map_eq_some_iff] at h3
  obtain ⟨e, h3, rfl⟩ := h3
  refine ⟨_, pe_un WUn.ur WE.pe, ?_⟩
  refine ha ρ S r1 S1 h1 σ ι F H _ g sl fun v1 ι1 F1 H1 st1 g1 q1 => ?_
  exact neg_ok g1 (int_neg_view g1 q1 h3) h3 (k.step st1)
theorem snd_not (ha : SndE C X a x) : SndE C X (.UnaryOp .Not a pos) (.not x) := by
  intro ρ S r S' h σ ι F H Q g sl k
  simp only [evE] at h
  obtain ⟨r1, S1, h1, h⟩ := at_some h
  obtain ⟨h3, rfl⟩ := ws_some h
  simp only [Option.map_eq_some_iff] at h3
  obtain ⟨e, h3, rfl⟩ := h3
  refine ⟨_, pe_notT WE.pe, ?_⟩
  refine ha ρ S r1 S1 h1 σ ι F H _ g sl fun v1 ι1 F1 H1 st1 g1 q1 => ?_
  exact ⟨e, tru_ok' g1.sub (q1.view g1) h3, Fin.val g1 (k.step st1) (.bl _)⟩
theorem snd_notT (ha : SndT C X a x) : SndT C X (.UnaryOp .Not a pos) (.not x) := by
  intro ρ S r S' b h hb σ ι F H Q g sl k
  simp only [evE] at h
  obtain ⟨r1, S1, h1, h⟩ := at_some h
  obtain ⟨h3, rfl⟩ := ws_some h
  simp only [Option.map_eq_some_iff] at h3
  obtain ⟨e, h3, rfl⟩ := h3
  simp only [R.any, look_bl, truD, Option.some.injEq] at hb
  subst hb
  exact ⟨_, pt_not WT.pt, ha ρ S r1 S1 e h1 h3 σ ι F H _ g sl k⟩
theorem snd_and {r : List Expr} (ha : SndE C X a x) (hb : SndE C X (.BoolOp .And (b :: r) pos) y) : SndE C X (.BoolOp .And (a :: b :: r) pos) (.and x y) := by
  intro ρ S r S' h σ ι F H Q g sl k
  simp only [evE] at h
  obtain ⟨r1, S1, h1, h⟩ := at_some h
  refine ⟨_, pe_andT WE.pe WE.pe, ?_⟩
  refine ha ρ S r1 S1 h1 σ ι F H _ g sl fun v1 ι1 F1 H1 st1 g1 q1 => ?_
  split at h
  · cases h
  · rename_i ht
    cases h
    exact ⟨false, tru_ok' g1.sub (q1.view g1) ht, iteF (k v1 ι1 F1 H1 st1 g1 q1)⟩
  · rename_i ht
    exact ⟨true, tru_ok' g1.sub (q1.view g1) ht, iteT (hb ρ S1 r S' h σ ι1 F1 H1 Q g1 (sl.step st1) (k.step st1))⟩
theorem snd_or {r : List Expr} (ha : SndE C X a x) (hb : SndE C X (.BoolOp .Or (b :: r) pos) y) : SndE C X (.BoolOp .Or (a :: b :: r) pos) (.or x y) := by
  intro ρ S r S' h σ ι F H Q g sl k
  simp only [evE] at h
  obtain ⟨r1, S1, h1, h⟩ := at_some h
  refine ⟨_, pe_orT WE.pe WE.pe, ?_⟩
  refine ha ρ S r1 S1 h1 σ ι F H _ g sl fun v1 ι1 F1 H1 st1 g1 q1 => ?_
  split at h
  · cases h
  · rename_i ht
    cases h
    exact ⟨true, tru_ok' g1.sub (q1.view g1) ht, iteT (k v1 ι1 F1 H1 st1 g1 q1)⟩
  · rename_i ht
    exact ⟨false, tru_ok' g1.sub (q1.view g1) ht, iteF (hb ρ S1 r S' h σ ι1 F1 H1 Q g1 (sl.step st1) (k.step st1))⟩
theorem bool_pw {op : BoolOp} {vs : List Expr} {t : TT} (h : PT X (.BoolOp op vs pos) t) : PW X (.BoolOp op vs pos) t := ⟨fun wh pins s σ H Q I q => by
  have := h.run pins s σ H Q I q
  have e : ∀ w, PySem.isTrue (.BoolOp op vs pos) X.env w = allTrue op vs X.env := fun w => by simp only [PySem.isTrue]
  rw [e] at this ⊢
  exact this⟩
theorem snd_one {op : BoolOp} (ha : SndE C X a x) : SndE C X (.BoolOp op [a] pos) x := fun ρ S r S' h σ ι F H Q g sl k => ⟨_, pe_one WE.pe, ha ρ S r S' h σ ι F H Q g sl k⟩
theorem snd_oneT {op : BoolOp} (ha : SndT C X a x) : SndT C X (.BoolOp op [a] pos) x := fun ρ S r S' b h hb σ ι F H Q g sl k => by
  cases op with
  | And => exact ⟨_, (pw_and1 WT.pt).pt, ha ρ S r S' b h hb σ ι F H Q g sl k⟩
  | Or => exact ⟨_, (pw_or1 WT.pt).pt, ha ρ S r S' b h hb σ ι F H Q g sl k⟩
theorem snd_andT {r : List Expr} (ha : SndT C X a x) (hb : SndT C X (.BoolOp .And (b :: r) pos) y) : SndT C X (.BoolOp .And (a :: b :: r) pos) (.and x y) := by
  intro ρ S r S' bb h hbb σ ι F H Q g sl k
  simp only [evE] at h
  obtain ⟨r1, S1, h1, h⟩ := at_some h
  refine ⟨_, (pw_and WT.pt (bool_pw WT.pt)).pt, ?_⟩
  split at h
  · cases h
  · rename_i ht
    cases h
    rw [ht] at hbb
    cases hbb
    exact ha ρ S _ _ false h1 ht σ ι F H _ g sl fun ι1 F1 H1 st1 g1 => iteF (k ι1 F1 H1 st1 g1)
  · rename_i ht
    exact ha ρ S r1 S1 true h1 ht σ ι F H _ g sl fun ι1 F1 H1 st1 g1 => iteT (hb ρ S1 r S' bb h hbb σ ι1 F1 H1 Q g1 (sl.step st1) fun ι2 F2 H2 st2 g2 => k ι2 F2 H2 (st1.tr0 st2) g2)
theorem snd_orT {r : List Expr} (ha : SndT C X a x) (hb : SndT C X (.BoolOp .Or (b :: r) pos) y) : SndT C X (.BoolOp .Or (a :: b :: r) pos) (.or x y) := by
  intro ρ S r S' bb h hbb σ ι F H Q g sl k
  simp only [evE] at h
  obtain ⟨r1, S1, h1, h⟩ := at_some h
  refine ⟨_, (pw_or WT.pt (bool_pw WT.pt)).pt, ?_⟩
  split at h
  · cases h
  · rename_i ht
    cases h
    rw [ht] at hbb
    cases hbb
    exact ha ρ S _ _ true h1 ht σ ι F H _ g sl fun ι1 F1 H1 st1 g1 => iteT (k ι1 F1 H1 st1 g1)
  · rename_i ht
    exact ha ρ S r1 S1 false h1 ht σ ι F H _ g sl fun ι1 F1 H1 st1 g1 => iteF (hb ρ S1 r S' bb h hbb σ ι1 F1 H1 Q g1 (sl.step st1) fun ι2 F2 H2 st2 g2 => k ι2 F2 H2 (st1.tr0 st2) g2)
theorem snd_ite {t : Expr} (ht : SndT C X t x) (ha : SndE C X a y) (hb : SndE C X b z) : SndE C X (.IfExp t a b pos) (.ite x y z) := by
  intro ρ S r S' h σ ι F H Q g sl k
  simp only [evE] at h
  obtain ⟨r1, S1, h1, h⟩ := at_some h
  refine ⟨_, pe_ifExp WT.pt WE.pe WE.pe, ?_⟩
  split at h
  · cases h
  · rename_i hc
    exact ht ρ S r1 S1 true h1 hc σ ι F H _ g sl fun ι1 F1 H1 st1 g1 => iteT (ha ρ S1 r S' h σ ι1 F1 H1 Q g1 (sl.step st1) (k.step st1))
  · rename_i hc
    exact ht ρ S r1 S1 false h1 hc σ ι F H _ g sl fun ι1 F1 H1 st1 g1 => iteF (hb ρ S1 r S' h σ ι1 F1 H1 Q g1 (sl.step st1) (k.step st1))
theorem isTrue_ifExp {t : Expr} {tc ta tb : TT} (hc : PT X t tc) (ha : PT X a ta) (hb : PT X b tb) : PT X (.IfExp t a b pos) (fun σ H Q => tc σ H fun c H1 => if c = true then ta σ H1 Q else tb σ H1 Q) := ⟨fun pins s σ H Q I h => by
  simp only [PySem.isTrue]
  refine wpAny_bind (thn (hc.run pins s σ H _ I h) fun c s1 ⟨H1, I1, q⟩ => ?_)
  cases c with
  | true => exact ha.run pins s1 σ H1 Q I1 q
  | false => exact hb.run pins s1 σ H1 Q I1 q⟩
theorem snd_iteT {t : Expr} (ht : SndT C X t x) (ha : SndT C X a y) (hb : SndT C X b z) : SndT C X (.IfExp t a b pos) (.ite x y z) := by
  intro ρ S r S' bb h hbb σ ι F H Q g sl k
  simp only [evE] at h
  obtain ⟨r1, S1, h1, h⟩ := at_some h
  refine ⟨_, isTrue_ifExp WT.pt WT.pt WT.pt, ?_⟩
  split at h
  · cases h
  · rename_i hc
    exact ht ρ S r1 S1 true h1 hc σ ι F H _ g sl fun ι1 F1 H1 st1 g1 => iteT (ha ρ S1 r S' bb h hbb σ ι1 F1 H1 Q g1 (sl.step st1) fun ι2 F2 H2 st2 g2 => k ι2 F2 H2 (st1.tr0 st2) g2)
  · rename_i hc
    exact ht ρ S r1 S1 false h1 hc σ ι F H _ g sl fun ι1 F1 H1 st1 g1 => iteF (hb ρ S1 r S' bb h hbb σ ι1 F1 H1 Q g1 (sl.step st1) fun ι2 F2 H2 st2 g2 => k ι2 F2 H2 (st1.tr0 st2) g2)
theorem snd_cmp {op : CmpOp} (c : Ctx C lev T X) (ha : SndE C X a x) (hb : SndE C X b y) (hs : setB b = false) : SndE C X (.Compare a [op] [b] pos) (.cmp (copOf op) x y) := by
  intro ρ S r S' h σ ι F H Q g sl k
  simp only [evE] at h
  obtain ⟨r1, S1, h1, h⟩ := at_some h
  obtain ⟨r2, S2, h2, h⟩ := at_some h
  obtain ⟨h3, rfl⟩ := ws_some h
  simp only [Option.map_eq_some_iff] at h3
  obtain ⟨e, h3, rfl⟩ := h3
  refine ⟨_, pe_cmpR WOp.or WE.pe WE.pe (nomark' hs), ?_⟩
  refine ha ρ S r1 S1 h1 σ ι F H _ g sl fun v1 ι1 F1 H1 st1 g1 q1 => ?_
  refine hb ρ S1 r2 S2 h2 σ ι1 F1 H1 _ g1 (sl.step st1) fun v2 ι2 F2 H2 st2 g2 q2 => ?_
  have := cmp_ok (Q := Q) c.hu g2.sub ((q1.step st2).view g2) (q2.view g2) h3 (Fin.val g2 (k.step (st1.tr0 st2)) (.bl _))
  rw [cop_copOf] at this
  exact this
theorem snd_cmpT {op : CmpOp} (c : Ctx C lev T X) (ha : SndE C X a x) (hb : SndE C X b y) (hs : setB b = false) : SndT C X (.Compare a [op] [b] pos) (.cmp (copOf op) x y) := by
  intro ρ S r S' bb h hbb σ ι F H Q g sl k
  simp only [evE] at h
  obtain ⟨r1, S1, h1, h⟩ := at_some h
  obtain ⟨r2, S2, h2, h⟩ := at_some h
  obtain ⟨h3, rfl⟩ := ws_some h
  simp only [Option.map_eq_some_iff] at h3
  obtain ⟨e, h3, rfl⟩ := h3
  simp [R.any, truD] at hbb
  subst hbb
  refine ⟨_, pt_cmpR WOp.or WE.pe WE.pe (nomark' hs), ?_⟩
  refine ha ρ S r1 S1 h1 σ ι F H _ g sl fun v1 ι1 F1 H1 st1 g1 q1 => ?_
  refine hb ρ S1 r2 S2 h2 σ ι1 F1 H1 _ g1 (sl.step st1) fun v2 ι2 F2 H2 st2 g2 q2 => ?_
  have := cmp_ok (Q := fun x H' => ∃ k, x = V.bl k ∧ Q k H') c.hu g2.sub ((q1.step st2).view g2) (q2.view g2) h3 ⟨e, rfl, k ι2 F2 H2 (st1.tr0 st2) g2⟩
  rw [cop_copOf] at this
  exact this
theorem mark2 {o1 o2 : CmpOp} {b c : Expr} (h : setB c = false) : lastMarks [o1, o2] [b, c] = false := by
  show behindInMarks o2 c = false
  exact nomark' h
theorem chn_core {o1 o2 : CmpOp} {cc : Expr} {ρ : Env} {S S' : Sto} {r : R} (c : Ctx C lev T X) (ha : SndE C X a x) (hb : SndE C X b y) (hcc : SndE C X cc z) (h : evE C ρ (.chn (copOf o1) (copOf o2) x y z) S = some (r, S'))
    {σ : L2.St} {ι : List Addr} {F H : Hp} {Q : VK} (g : Good X.K ι F H S) (sl : Slots X.K ι F H σ ρ) (k : ∀ bb, r = .val (.bl bb) → ∀ ι' F' H', Stp NoO ι F H ι' F' H' → Good X.K ι' F' H' S' → Q (.bl bb) H') :
    tChain (WOp X (compareOp o1)) (WOp X (compareOp o2)) (WE X a) (WE X b) (WE X cc) σ H Q := by
  simp only [evE] at h
  obtain ⟨r1, S1, h1, h⟩ := at_some h
  obtain ⟨r2, S2, h2, h⟩ := at_some h
  refine ha ρ S r1 S1 h1 σ ι F H _ g sl fun v1 ι1 F1 H1 st1 g1 q1 => ?_
  refine hb ρ S1 r2 S2 h2 σ ι1 F1 H1 _ g1 (sl.step st1) fun v2 ι2 F2 H2 st2 g2 q2 => ?_
  split at h
  · cases h
  · rename_i hc
    cases h
    have := cmp_ok (Q := fun z H3 => ∃ k, z = V.bl k ∧ (if k = true then WE X cc σ H3 fun w H4 => WOp X (compareOp o2) v2 w H4 Q else Q (V.bl false) H3)) c.hu g2.sub ((q1.step st2).view g2) (q2.view g2) hc ⟨false, rfl, iteF (k false rfl ι2 F2 H2 (st1.tr0 st2) g2)⟩
    rw [cop_copOf] at this
    exact this
  · rename_i hc
    obtain ⟨r3, S3, h3, h⟩ := at_some h
    obtain ⟨h4, rfl⟩ := ws_some h
    simp only [Option.map_eq_some_iff] at h4
    obtain ⟨e, h4, rfl⟩ := h4
    have := cmp_ok (Q := fun z H3 => ∃ k, z = V.bl k ∧ (if k = true then WE X cc σ H3 fun w H4 => WOp X (compareOp o2) v2 w H4 Q else Q (V.bl false) H3)) c.hu g2.sub ((q1.step st2).view g2) (q2.view g2) hc ⟨true, rfl, iteT (hcc ρ S2 r3 S3 h3 σ ι2 F2 H2 _ g2 (sl.step (st1.tr0 st2)) fun v3 ι3 F3 H3 st3 g3 q3 => (by
      have := cmp_ok (Q := Q) c.hu g3.sub ((q2.step st3).view g3) (q3.view g3) h4 (k e rfl ι3 F3 H3 ((st1.tr0 st2).tr0 st3) g3)
      rw [cop_copOf] at this
      exact this))⟩
    rw [cop_copOf] at this
    exact this
theorem snd_chn {o1 o2 : CmpOp} {cc : Expr} (c : Ctx C lev T X) (ha : SndE C X a x) (hb : SndE C X b y) (hcc : SndE C X cc z) (hs : setB cc = false) : SndE C X (.Compare a [o1, o2] [b, cc] pos) (.chn (copOf o1) (copOf o2) x y z) := by
  intro ρ S r S' h σ ι F H Q g sl k
  refine ⟨_, pe_chain WOp.or WOp.or WE.pe WE.pe WE.pe (mark2 hs), ?_⟩
  exact chn_core c ha hb hcc h g sl fun bb e ι' F' H' st g' => by subst e; exact k _ ι' F' H' st g' (.bl bb)
theorem snd_chnT {o1 o2 : CmpOp} {cc : Expr} (c : Ctx C lev T X) (ha : SndE C X a x) (hb : SndE C X b y) (hcc : SndE C X cc z) (hs : setB cc = false) : SndT C X (.Compare a [o1, o2] [b, cc] pos) (.chn (copOf o1) (copOf o2) x y z) := by
  intro ρ S r S' bb h hbb σ ι F H Q g sl k
  refine ⟨_, pt_chain WOp.or WOp.or WE.pe WE.pe WE.pe (mark2 hs), ?_⟩
  exact chn_core c ha hb hcc h g sl fun b1 e ι' F' H' st g' => by
    subst e
    simp [R.any, truD] at hbb
    subst hbb
    exact ⟨_, rfl, k ι' F' H' st g'⟩
theorem sndA_nil : SndA C X [] .nil := fun ρ S ds S' h σ ι F H Q g sl k => by
  simp only [evA, Option.some.injEq, Prod.mk.injEq] at h
  obtain ⟨rfl, rfl⟩ := h
  exact ⟨_, pa_nil, k [] ι F H .refl g .nil⟩
theorem sndA_cons {es : List Expr} {xs : Exs} (ha : SndE C X e x) (hr : SndA C X es xs) (hs : starB e = false) : SndA C X (e :: es) (.cons x xs) := by
  intro ρ S ds S' h σ ι F H Q g sl k
  simp only [evA] at h
  obtain ⟨r1, S1, h1, h⟩ := at_some h
  split at h
  · cases h
  · rename_i d hp
    obtain ⟨ds2, S2, h2, h⟩ := at_some h
    cases h
    refine ⟨_, pa_cons WE.pe WA.pa (star1 hs), ?_⟩
    refine ha ρ S r1 S1 h1 σ ι F H _ g sl fun v1 ι1 F1 H1 st1 g1 q1 => ?_
    obtain ⟨F1', st1', g1', rp, sb⟩ := q1.pur hp g1 st1
    refine hr ρ S1 _ _ h2 σ ι1 F1' H1 _ g1' (sl.step st1') fun vs ι2 F2 H2 st2 g2 rl => ?_
    exact k (v1 :: vs) ι2 F2 H2 (st1'.tr0 st2) g2 (.cons (rp.up st2.pre st2.mono) rl)
theorem snd_tup {es : List Expr} {xs : Exs} {k : Nat} (h : SndA C X es xs) : SndE C X (.Tuple es k pos) (.tup xs) := by
  intro ρ S r S' hh σ ι F H Q g sl q
  simp only [evE] at hh
  obtain ⟨ds, S1, h1, hh⟩ := at_some hh
  split at hh
  · rename_i hz
    cases hh
    refine ⟨_, pe_tup WA.pa, ?_⟩
    refine h ρ S ds S' h1 σ ι F H _ g sl fun vs ι1 F1 H1 st1 g1 rl => ⟨by rw [rl.length]; exact hz, fun p hp => ?_⟩
    exact Fin.tup g1 (q.step st1) rl hp
  · cases hh
theorem snd_lst {es : List Expr} {xs : Exs} (h : SndA C X es xs) : SndE C X (.List es pos) (.lst xs) := by
  intro ρ S r S' hh σ ι F H Q g sl q
  simp only [evE] at hh
  obtain ⟨ds, S1, h1, hh⟩ := at_some hh
  split at hh
  · rename_i hz
    cases hh
    refine ⟨_, pe_lst WA.pa, ?_⟩
    refine h ρ S ds S' h1 σ ι F H _ g sl fun vs ι1 F1 H1 st1 g1 rl => ⟨by rw [rl.length]; exact hz, fun p hp => ?_⟩
    exact Fin.lst g1 (q.step st1) rl hp
  · cases hh
theorem snd_ix (ha : SndE C X a x) (hb : SndE C X b y) (hs : sliceB b = false) : SndE C X (.Subscript a b pos) (.ix x y) := by
  intro ρ S r S' h σ ι F H Q g sl k
  simp only [evE] at h
  obtain ⟨r1, S1, h1, h⟩ := at_some h
  obtain ⟨r2, S2, h2, h⟩ := at_some h
  obtain ⟨h3, rfl⟩ := ws_some h
  simp only [Option.map_eq_some_iff] at h3
  obtain ⟨e, h3, rfl⟩ := h3
  refine ⟨_, pe_ix WIx.ir WE.pe WE.pe (plain_ix hs), ?_⟩
  refine ha ρ S r1 S1 h1 σ ι F H _ g sl fun v1 ι1 F1 H1 st1 g1 q1 => ?_
  refine hb ρ S1 r2 S2 h2 σ ι1 F1 H1 _ g1 (sl.step st1) fun v2 ι2 F2 H2 st2 g2 q2 => ?_
  exact ix_ok g2 ((q1.step st2).view g2) (q2.view g2) h3 (k.step (st1.tr0 st2))
theorem WSl.sr : SlR X (WSl X) := fun pins s σ H x v vl vu lo hi sl Q I rx hs pl pu h => let ⟨_, p, q⟩ := h; p pins s σ H x v vl vu lo hi sl Q I rx hs pl pu q
theorem snd_sl {lo hi : Option Expr} {l h : Ox} {p2 : Pos} (ha : SndE C X a x) (hl : SndO C X lo l) (hh : SndO C X hi h) : SndE C X (.Subscript a (.Slice lo hi none p2) pos) (.sl x l h) := by
  intro ρ S r S' he σ ι F H Q g sl k
  simp only [evE] at he
  obtain ⟨r1, S1, h1, he⟩ := at_some he
  obtain ⟨o1, S2, h2, he⟩ := at_some he
  obtain ⟨o2, S3, h3, he⟩ := at_some he
  obtain ⟨h4, rfl⟩ := ws_some he
  refine ⟨_, pe_slice WSl.sr WE.pe WO.po WO.po, ?_⟩
  refine ha ρ S r1 S1 h1 σ ι F H _ g sl fun v1 ι1 F1 H1 st1 g1 q1 => ?_
  refine hl ρ S1 o1 S2 h2 σ ι1 F1 H1 _ g1 (sl.step st1) fun ι2 F2 H2 st2 g2 => ?_
  refine hh ρ S2 o2 S3 h3 σ ι2 F2 H2 _ g2 (sl.step (st1.tr0 st2)) fun ι3 F3 H3 st3 g3 => ?_
  exact sl_ok g3 (((q1.step st2).step st3).view g3) h4 (k.step ((st1.tr0 st2).tr0 st3))
theorem sndO_no : SndO C X none .no := fun ρ S o S' h σ ι F H Q g sl k => by
  simp only [evO, Option.some.injEq, Prod.mk.injEq] at h
  obtain ⟨rfl, rfl⟩ := h
  exact ⟨_, po_none, k ι F H .refl g⟩
theorem res_int {ι : List Addr} {F H H0 : Hp} {S : Sto} {OA : Addr → Prop} {v : V} {r : R} {i : Int} (q : ResOk X.K OA H0 ι F H v r) (g : Good X.K ι F H S) (h : r.any = .int i) : v = .int i := by
  have w := q.view g
  rw [h] at w
  exact w.int
theorem sndO_yes (ha : SndE C X a x) : SndO C X (some a) (.yes x) := by
  intro ρ S o S' h σ ι F H Q g sl k
  simp only [evO] at h
  obtain ⟨r1, S1, h1, h⟩ := at_some h
  split at h
  · rename_i i hi
    cases h
    refine ⟨_, po_some WE.pe, ?_⟩
    exact ha ρ S r1 S' h1 σ ι F H _ g sl fun v1 ι1 F1 H1 st1 g1 q1 => ⟨i, res_int q1 g1 hi, k ι1 F1 H1 st1 g1⟩
  · cases h
theorem snd_call {f : Str} {k : Nat} {es : List Expr} {xs : Exs} {p : Pos} (c : Ctx C lev T X) (hd : dbg f = false) (hg : isGl (T.nm.lookup f) = true) (hf : T.fns[k]? = some f) (h : SndA C X (e :: es) xs) (hst : ∀ e' ∈ e :: es, starB e' = false) :
    SndE C X (.Call (.Name f p) (e :: es) [] pos) (.call k xs) := by
  intro ρ S r S' hh σ ι F H Q g sl q
  simp only [evE] at hh
  obtain ⟨ds, S1, h1, hh⟩ := at_some hh
  obtain ⟨fA, fd, ps, m1, m2, m3, m4⟩ := c.call k f hf
  refine ⟨_, pe_call m4 c.room (gl_of c hg) m1 m2 m3 .nil pass0 WA.pa (dbg1 hd).1 (star1 (hst e (by simp))) (nostars fun e' he => hst e' (by simp [he])), ?_⟩
  refine h ρ S ds S1 h1 σ ι F H _ g sl fun vs ι1 F1 H1 st1 g1 rl => ?_
  refine ⟨ι1, F1, S1, ds, r, S', g1, by rw [List.append_nil]; exact rl, hh, fun v ι' F' H' st g' q' => ?_⟩
  refine q v ι' F' H' (st1.tr0 st) g' ?_
  have q2 := q'.back st1
  cases r with
  | val d => exact q2
  | new d => exact q2
  | brw d => obtain ⟨a, _, n, _⟩ := q2; exact n.elim
theorem biOf_n {f : Str} {b : Bi} (h : biOf f = some b) : f = biN b := by
  unfold biOf at h
  repeat' split at h
  all_goals first | (cases h; assumption) | cases h
theorem snd_bi {b : Bi} {p : Pos} (c : Ctx C lev T X) (hd : dbg (biN b) = false) (hg : isGl (T.nm.lookup (biN b)) = true) (hm : biN b ∈ T.bl) (ha : SndE C X a x) (hs : starB a = false) : SndE C X (.Call (.Name (biN b) p) [a] [] pos) (.bi b x) := by
  intro ρ S r S' hh σ ι F H Q g sl q
  simp only [evE] at hh
  obtain ⟨r1, S1, h1, hh⟩ := at_some hh
  obtain ⟨h2, rfl⟩ := ws_some hh
  have key : ∀ (R : V → Hp → Prop), (∀ v1 ι1 F1 H1, Stp NoO ι F H ι1 F1 H1 → Good X.K ι1 F1 H1 S1 → ResOk X.K (OwnA σ ρ) H ι1 F1 H1 v1 r1 → R v1 H1) → tCons (WE X a) tNil σ H fun vs H1 => ∃ v, vs = [v] ∧ R v H1 :=
    fun R k => ha ρ S r1 S1 h1 σ ι F H _ g sl fun v1 ι1 F1 H1 st1 g1 q1 => ⟨v1, rfl, k v1 ι1 F1 H1 st1 g1 q1⟩
  have m := c.bl _ hm
  have gl := gl_of c hg
  have fin : tCons (WE X a) tNil σ H fun vs H1 => WCall X (biV b) vs H1 Q := by
    refine ha ρ S r1 S1 h1 σ ι F H _ g sl fun v1 ι1 F1 H1 st1 g1 q1 => ?_
    exact bi_ok c.calm g1 (q1.view g1) h2 (q.step st1)
  have pa : PA X [a] (tCons (WE X a) tNil) := pa_cons WE.pe pa_nil (star1 hs)
  cases b with
  | len => exact ⟨_, pe_callB WCall.cr gl m (by decide +kernel) pa (by decide) (by decide) (star1 hs) rfl, fin⟩
  | all => exact ⟨_, pe_callB WCall.cr gl m (by decide +kernel) pa (by decide) (by decide) (star1 hs) rfl, fin⟩
  | any => exact ⟨_, pe_callB WCall.cr gl m (by decide +kernel) pa (by decide) (by decide) (star1 hs) rfl, fin⟩
  | sum => exact ⟨_, pe_callB WCall.cr gl m (by decide +kernel) pa (by decide) (by decide) (star1 hs) rfl, fin⟩
  | tuple => exact ⟨_, pe_callTy WCall.cr gl m (by decide +kernel) pa (by decide) (by decide) (star1 hs) rfl, fin⟩
  | list => exact ⟨_, pe_callTy WCall.cr gl m (by decide +kernel) pa (by decide) (by decide) (star1 hs) rfl, fin⟩
end Ds
namespace Ds
open PySem PySem.Spec PyProof.Rows L2
variable {C : Orc} {lev : Nat} {T : Tb} {X : Cx} {a b e : Expr} {x y z : Ex} {pos : Pos}
theorem tyOf_n {f : Str} {t : Ty} (h : tyOf f = some t) : f = (tyS t : Str) := by
  unfold tyOf at h
  repeat' split at h
  all_goals first | (cases h; assumption) | cases h
theorem boot_ty (t : Ty) : bootBuiltins (tyS t : Str) = some (.type (tyS t)) := by cases t <;> decide +kernel
theorem ty_pe {t : Ty} {p : Pos} (c : Ctx C lev T X) (h : trTy T e = some t) : PE X e (tC (.ty (tyS t))) ∧ starB e = false := by
  cases e <;> simp only [trTy] at h <;> try cases h
  split at h
  · rename_i hc
    simp only [Bool.and_eq_true, decide_eq_true_eq] at hc
    obtain rfl := tyOf_n h
    exact ⟨pe_bltn (gl_of c hc.1) (c.bl _ hc.2) (boot_ty t) rfl (by cases t <;> decide) (by cases t <;> decide), rfl⟩
  · cases h
theorem tys_pa (c : Ctx C lev T X) : ∀ {es : List Expr} {ts : List Ty}, trTys T es = some ts → PA X es (fun _ H Q => Q (ts.map fun t => V.ty (tyS t)) H)
  | [], ts, h => by
    simp only [trTys, Option.some.injEq] at h
    subst h
    exact pa_nil
  | e :: es, ts, h => by
    simp only [trTys] at h
    split at h
    · rename_i t ts' h1 h2
      cases h
      obtain ⟨p1, p2⟩ := ty_pe (p := ⟨0, 0, 0, 0⟩) c h1
      exact pa_cons p1 (tys_pa c h2) (star1 p2)
    · cases h
theorem view_cls {ι : List Addr} {F H : Hp} {v : V} {d : D} {t : Ty} {ts : List Ty} {k : Bool} (w : View X.K ι F H v d) (h : isDs d (t :: ts) = some k) : ∃ n, clsD d = some n := by
  cases d with
  | dct ks vs =>
    rcases w with ⟨r, _⟩ | ⟨a, rfl, o⟩
    · cases r
    · exact o.elim
  | fz _ => simp [isDs, isD] at h
  | ref _ => simp [isDs, isD] at h
  | _ => exact ⟨_, rfl⟩
theorem cls_paired : ∀ ts : List Ty, Paired ClsV (ts.map fun t => V.ty (tyS t)) (ts.map fun t => Value.type (tyS t))
  | [] => .nil
  | t :: ts => .cons (.ty _) (cls_paired ts)
theorem snd_isi1 {t : Ty} {et : Expr} {p : Pos} (c : Ctx C lev T X) (hg : isGl (T.nm.lookup ("isinstance" : Str)) = true) (hm : ("isinstance" : Str) ∈ T.bl) (ha : SndE C X a x) (hs : starB a = false) (ht : trTy T et = some t) :
    SndE C X (.Call (.Name "isinstance" p) [a, et] [] pos) (.isi x [t]) := by
  intro ρ S r S' hh σ ι F H Q g sl q
  simp only [evE] at hh
  obtain ⟨r1, S1, h1, hh⟩ := at_some hh
  obtain ⟨h2, rfl⟩ := ws_some hh
  simp only [Option.map_eq_some_iff] at h2
  obtain ⟨k, h2, rfl⟩ := h2
  obtain ⟨p1, p2⟩ := ty_pe (p := ⟨0, 0, 0, 0⟩) c ht
  have pa : PA X [a, et] (tCons (WE X a) (tCons (tC (.ty (tyS t))) tNil)) := pa_cons WE.pe (pa_cons p1 pa_nil (star1 p2)) (star1 hs)
  refine ⟨_, pe_callB call_isi (gl_of c hg) (c.bl _ hm) (by decide +kernel) pa (by decide) (by decide) (star1 hs) (nostars fun e' he => ?_), ?_⟩
  · simp at he; rw [he]; exact p2
  refine ha ρ S r1 S1 h1 σ ι F H _ g sl fun v1 ι1 F1 H1 st1 g1 q1 => ?_
  have w := q1.view g1
  obtain ⟨n, hn⟩ := view_cls w h2
  refine ⟨v1, .ty (tyS t), .type n, .type (tyS t), k, rfl, .ty _, cls_ok g1.sub w hn, ?_, Fin.val g1 (q.step st1) (.bl _)⟩
  refine isD_kit ?_ hn
  simp only [isDs] at h2
  split at h2
  · rename_i e; cases h2; exact e
  · rename_i e; cases h2; exact e
  · cases h2
theorem snd_isiN {t : Ty} {ts : List Ty} {es : List Expr} {kk : Nat} {p p2 : Pos} (c : Ctx C lev T X) (hg : isGl (T.nm.lookup ("isinstance" : Str)) = true) (hm : ("isinstance" : Str) ∈ T.bl) (ha : SndE C X a x) (hs : starB a = false) (ht : trTys T es = some (t :: ts)) (hl : (t :: ts).length ≤ 100) :
    SndE C X (.Call (.Name "isinstance" p) [a, .Tuple es kk p2] [] pos) (.isi x (t :: ts)) := by
  intro ρ S r S' hh σ ι F H Q g sl q
  simp only [evE] at hh
  obtain ⟨r1, S1, h1, hh⟩ := at_some hh
  obtain ⟨h2, rfl⟩ := ws_some hh
  simp only [Option.map_eq_some_iff] at h2
  obtain ⟨k, h2, rfl⟩ := h2
  have pt := pe_tup (pos := p2) (x1 := kk) (tys_pa c ht)
  have pa : PA X [a, .Tuple es kk p2] (tCons (WE X a) (tCons (tTup (fun _ H Q => Q ((t :: ts).map fun t => V.ty (tyS t)) H)) tNil)) := pa_cons WE.pe (pa_cons pt pa_nil (star1 rfl)) (star1 hs)
  refine ⟨_, pe_callB call_isiT (gl_of c hg) (c.bl _ hm) (by decide +kernel) pa (by decide) (by decide) (star1 hs) rfl, ?_⟩
  refine ha ρ S r1 S1 h1 σ ι F H _ g sl fun v1 ι1 F1 H1 st1 g1 q1 => ?_
  have w := q1.view g1
  obtain ⟨n, hn⟩ := view_cls w h2
  refine ⟨?_, fun p0 hp => ?_⟩
  · rw [List.length_map]
    exact Nat.le_of_lt (small1000 (by omega))
  have st2 : Stp NoO ι1 F1 H1 ι1 F1 (upd H1 p0 (.tup ((t :: ts).map fun t => V.ty (tyS t)))) := stp_new hp
  have g2 := g1.new (o := .tup ((t :: ts).map fun t => V.ty (tyS t))) hp
  refine ⟨v1, p0, _, .type n, _, k, rfl, upd_same, cls_paired (t :: ts), cls_ok g2.sub ((q1.step st2).view g2) hn, isDs_kit hn h2, Fin.val g2 (q.step (st1.tr0 st2)) (.bl _)⟩
theorem SndE.rep (ha : SndE C X a x) {ρ : Env} {S S' : Sto} {r : R} {d : D} (h : evE C ρ x S = some (r, S')) (hp : r.pur = some d) {σ : L2.St} {ι : List Addr} {F H : Hp} {Q : VK} (g : Good X.K ι F H S) (sl : Slots X.K ι F H σ ρ)
    (k : ∀ v ι' F' H', Stp NoO ι F H ι' F' H' → Good X.K ι' F' H' S' → Rep X.K ι' F' v d → Q v H') : WE X a σ H Q :=
  ha ρ S r S' h σ ι F H Q g sl fun v1 ι1 F1 H1 st1 g1 q1 => by
    obtain ⟨F1', st1', g1', rp, sb⟩ := q1.pur hp g1 st1
    exact k v1 ι1 F1' H1 st1' g1' rp
theorem itl_ok {K : PySem.W.Frag} {ι : List Addr} {F : Hp} {ad : Addr} {xs : List V} {ds : List D} (h : SqL K F ad xs) (hh : ∀ F' H' : Hp, Sub F F' → Sub F' H' → SqL K H' ad xs) (r : RepL K ι F xs ds) : ItOk K (Itl K ad) ι F ds := by
  intro ι' F' H' S' pre sb g
  have hq := hh F' H' sb g.sub
  refine ⟨fun i d hd => ?_, xs, hq, by rw [r.length]; exact Nat.le_refl _⟩
  obtain ⟨v, h1, h2⟩ := r.get hd
  refine ⟨⟨xs, v, hq, h1⟩, fun x H'' ⟨e1, e2⟩ => ?_⟩
  subst e1
  have := e2 xs hq
  rw [h1] at this
  cases this
  exact ⟨F', .refl, g, h2.up pre sb⟩
theorem itt_ok {K : PySem.W.Frag} {ι : List Addr} {F : Hp} {ad : Addr} {xs : List V} {ds : List D} (h : SqT K F ad xs) (r : RepL K ι F xs ds) : ItOk K (Itt K ad) ι F ds := by
  intro ι' F' H' S' pre sb g
  have hq := g.sub.sqT (sb.sqT h)
  refine ⟨fun i d hd => ?_, xs, hq, by rw [r.length]; exact Nat.le_refl _⟩
  obtain ⟨v, h1, h2⟩ := r.get hd
  refine ⟨⟨xs, v, hq, h1⟩, fun x H'' ⟨e1, e2⟩ => ?_⟩
  subst e1
  have := e2 xs hq
  rw [h1] at this
  cases this
  exact ⟨F', .refl, g, h2.up pre sb⟩
theorem sndI_seq (ha : SndE C X a x) : SndI C X a (.seq x) := by
  intro ρ S ds S' h σ ι F H g sl tg R k
  simp only [evI] at h
  obtain ⟨r1, S1, h1, h⟩ := at_some h
  split at h
  · cases h
  · rename_i d hp
    obtain ⟨h2, rfl⟩ := ws_some h
    cases d with
    | lst xs =>
      simp only [itemsOf, Option.some.injEq] at h2
      subst h2
      refine ⟨_, pi_list WE.pe, ha.rep h1 hp g sl fun v ι' F' H' st g' rp => ?_⟩
      cases rp with
      | lst hf rl => exact ⟨_, rfl, ⟨_, SqL.of (g'.sub _ _ hf)⟩, k _ ι' F' H' st g' (itl_ok (SqL.of hf) (fun F2 H2 s1 s2 => SqL.of (s2 _ _ (s1 _ _ hf))) rl)⟩
    | tup xs =>
      simp only [itemsOf, Option.some.injEq] at h2
      subst h2
      refine ⟨_, pi_tup WE.pe, ha.rep h1 hp g sl fun v ι' F' H' st g' rp => ?_⟩
      cases rp with
      | tup hf rl => exact ⟨_, rfl, ⟨_, g'.sub.sqT hf⟩, k _ ι' F' H' st g' (itt_ok hf rl)⟩
    | fz xs =>
      simp only [itemsOf, Option.some.injEq] at h2
      subst h2
      refine ⟨_, pi_list WE.pe, ha.rep h1 hp g sl fun v ι' F' H' st g' rp => ?_⟩
      cases rp with
      | fz hf rl => exact ⟨_, rfl, ⟨_, g'.sub.sqL hf⟩, k _ ι' F' H' st g' (itl_ok hf (fun F2 H2 s1 s2 => s2.sqL (s1.sqL hf)) rl)⟩
    | str xs =>
      simp only [itemsOf, Option.some.injEq] at h2
      subst h2
      refine ⟨_, pi_str WE.pe, ha.rep h1 hp g sl fun v ι' F' H' st g' rp => ?_⟩
      cases rp
      refine ⟨_, rfl, k _ ι' F' H' st g' fun ι2 F2 H2 S2 pre sb g2 => ⟨fun i d hd => ⟨?_, fun w H3 ⟨e1, cc, e2, e3⟩ => ?_⟩, ?_⟩⟩
      · show i < xs.toArray.size
        rw [List.getElem?_map] at hd
        rcases Nat.lt_or_ge i xs.length with q | q
        · simpa using q
        · rw [List.getElem?_eq_none q] at hd; cases hd
      · subst e1
        subst e3
        rw [List.getElem?_map] at hd
        have e2' : xs[i]? = some cc := by simpa using e2
        rw [e2'] at hd
        cases hd
        exact ⟨F2, .refl, g2, .str _⟩
      · show xs.toArray.size ≤ (xs.map _).length
        simp
    | _ => simp [itemsOf] at h2
theorem itr_ok {K : PySem.W.Frag} {ι : List Addr} {F : Hp} {lo : Int} {n : Nat} : ItOk K (Itr lo n) ι F (rngL lo n) := by
  intro ι' F' H' S' pre sb g
  have hl : (rngL lo n).length = n := by unfold rngL; simp
  refine ⟨fun i d hd => ⟨?_, fun w H3 ⟨e1, e2⟩ => ?_⟩, ?_⟩
  · show i < n
    rcases Nat.lt_or_ge i n with q | q
    · exact q
    · rw [List.getElem?_eq_none (by rw [hl]; exact q)] at hd; cases hd
  · subst e1
    subst e2
    have hi : i < n := by
      rcases Nat.lt_or_ge i n with q | q
      · exact q
      · rw [List.getElem?_eq_none (by rw [hl]; exact q)] at hd; cases hd
    have : (rngL lo n)[i]? = some (.int (lo + i)) := by unfold rngL; rw [List.getElem?_map, List.getElem?_range hi]; rfl
    rw [this] at hd
    cases hd
    exact ⟨F', .refl, g, .int _⟩
  · show n ≤ _
    rw [hl]; exact Nat.le_refl _
theorem itc_ok {K : PySem.W.Frag} {ι : List Addr} {F : Hp} {lo c : Int} {n : Nat} : ItOk K (Itc lo c n) ι F (rngC lo c n) := by
  intro ι' F' H' S' pre sb g
  have hl : (rngC lo c n).length = n := by unfold rngC; simp
  refine ⟨fun i d hd => ⟨?_, fun w H3 ⟨e1, e2⟩ => ?_⟩, ?_⟩
  · show i < n
    rcases Nat.lt_or_ge i n with q | q
    · exact q
    · rw [List.getElem?_eq_none (by rw [hl]; exact q)] at hd; cases hd
  · subst e1
    subst e2
    have hi : i < n := by
      rcases Nat.lt_or_ge i n with q | q
      · exact q
      · rw [List.getElem?_eq_none (by rw [hl]; exact q)] at hd; cases hd
    have : (rngC lo c n)[i]? = some (.int (lo + i * c)) := by unfold rngC; rw [List.getElem?_map, List.getElem?_range hi]; rfl
    rw [this] at hd
    cases hd
    exact ⟨F', .refl, g, .int _⟩
  · show n ≤ _
    rw [hl]; exact Nat.le_refl _
theorem int_of_rng1 {r : R} {ds : List D} (h : rng1D r.any = some ds) : ∃ j : Int, r.any = .int j ∧ -(2 ^ 62) ≤ j ∧ j < 2 ^ 62 ∧ ds = rngL 0 j.toNat := by
  cases e : r.any <;> rw [e] at h <;> simp only [rng1D] at h <;> try cases h
  split at h
  · rename_i hc; cases h; exact ⟨_, rfl, hc.1, hc.2, rfl⟩
  · cases h
theorem int_of_rng2 {r r2 : R} {ds : List D} (h : rng2D r.any r2.any = some ds) : ∃ i j : Int, r.any = .int i ∧ r2.any = .int j ∧ (-(2 ^ 62) ≤ i ∧ i < 2 ^ 62 ∧ -(2 ^ 62) ≤ j ∧ j < 2 ^ 62) ∧ ds = rngL i (j - i).toNat := by
  cases e : r.any <;> cases e2 : r2.any <;> rw [e, e2] at h <;> simp only [rng2D] at h <;> try cases h
  split at h
  · rename_i hc; cases h; exact ⟨_, _, rfl, rfl, hc, rfl⟩
  · cases h
theorem int_of_rng3 {r r2 r3 : R} {ds : List D} (h : rng3D r.any r2.any r3.any = some ds) : ∃ i j c : Int, r.any = .int i ∧ r2.any = .int j ∧ r3.any = .int c ∧ (c ≠ 0 ∧ c.natAbs < 1073741824 ∧ Builtin.Range.small i j c = true ∧ 0 ≤ Builtin.Range.rangeSize i j c) ∧ ds = rngC i c (Builtin.Range.rangeSize i j c).toNat := by
  cases e : r.any <;> cases e2 : r2.any <;> cases e3 : r3.any <;> rw [e, e2, e3] at h <;> simp only [rng3D] at h <;> try cases h
  split at h
  · rename_i hc; cases h; exact ⟨_, _, _, rfl, rfl, rfl, hc, rfl⟩
  · cases h
theorem sndI_rng1 {p : Pos} (c : Ctx C lev T X) (hg : isGl (T.nm.lookup ("range" : Str)) = true) (hm : ("range" : Str) ∈ T.bl) (ha : SndE C X a x) (hs : starB a = false) : SndI C X (.Call (.Name "range" p) [a] [] pos) (.rng1 x) := by
  intro ρ S ds S' h σ ι F H g sl tg R k
  simp only [evI] at h
  obtain ⟨r1, S1, h1, h⟩ := at_some h
  obtain ⟨h2, rfl⟩ := ws_some h
  obtain ⟨j, e1, e2, e3, rfl⟩ := int_of_rng1 h2
  refine ⟨_, pi_range1 (gl_of c hg) (c.bl _ hm) (pa_cons WE.pe pa_nil (star1 hs)) (star1 hs), ?_⟩
  refine ha ρ S r1 S1 h1 σ ι F H _ g sl fun v1 ι1 F1 H1 st1 g1 q1 => ?_
  obtain rfl := res_int q1 g1 e1
  exact ⟨j, rfl, e2, e3, k _ ι1 F1 H1 st1 g1 itr_ok⟩
theorem sndI_rng2 {p : Pos} (c : Ctx C lev T X) (hg : isGl (T.nm.lookup ("range" : Str)) = true) (hm : ("range" : Str) ∈ T.bl) (ha : SndE C X a x) (hs : starB a = false) (hb : SndE C X b y) (hs2 : starB b = false) : SndI C X (.Call (.Name "range" p) [a, b] [] pos) (.rng2 x y) := by
  intro ρ S ds S' h σ ι F H g sl tg R k
  simp only [evI] at h
  obtain ⟨r1, S1, h1, h⟩ := at_some h
  obtain ⟨r2, S2, h2, h⟩ := at_some h
  obtain ⟨h3, rfl⟩ := ws_some h
  obtain ⟨i, j, e1, e2, e3, rfl⟩ := int_of_rng2 h3
  have sa : starEach [a, b] X.env = [(false, eval a X.env), (false, eval b X.env)] := by rw [star1 hs, star1 hs2]; rfl
  refine ⟨_, pi_range2 (gl_of c hg) (c.bl _ hm) (pa_cons WE.pe (pa_cons WE.pe pa_nil (star1 hs2)) (star1 hs)) sa (star1 hs2), ?_⟩
  refine ha ρ S r1 S1 h1 σ ι F H _ g sl fun v1 ι1 F1 H1 st1 g1 q1 => ?_
  refine hb ρ S1 r2 S2 h2 σ ι1 F1 H1 _ g1 (sl.step st1) fun v2 ι2 F2 H2 st2 g2 q2 => ?_
  obtain rfl := res_int q1 g1 e1
  obtain rfl := res_int q2 g2 e2
  exact ⟨i, j, rfl, e3, k _ ι2 F2 H2 (st1.tr0 st2) g2 itr_ok⟩
theorem sndI_rng3 {p : Pos} {d : Expr} (c : Ctx C lev T X) (hg : isGl (T.nm.lookup ("range" : Str)) = true) (hm : ("range" : Str) ∈ T.bl) (ha : SndE C X a x) (hs : starB a = false) (hb : SndE C X b y) (hs2 : starB b = false) (hd : SndE C X d z) (hs3 : starB d = false) :
    SndI C X (.Call (.Name "range" p) [a, b, d] [] pos) (.rng3 x y z) := by
  intro ρ S ds S' h σ ι F H g sl tg R k
  simp only [evI] at h
  obtain ⟨r1, S1, h1, h⟩ := at_some h
  obtain ⟨r2, S2, h2, h⟩ := at_some h
  obtain ⟨r3, S3, h3, h⟩ := at_some h
  obtain ⟨h4, rfl⟩ := ws_some h
  obtain ⟨i, j, cc, e1, e2, e3, e4, rfl⟩ := int_of_rng3 h4
  refine ⟨_, pi_range3 (gl_of c hg) (c.bl _ hm) (pa_cons WE.pe (pa_cons WE.pe (pa_cons WE.pe pa_nil (star1 hs3)) (star1 hs2)) (star1 hs)) (star1 hs) (nostars fun e' he => ?_), ?_⟩
  · simp at he; rcases he with rfl | rfl <;> assumption
  refine ha ρ S r1 S1 h1 σ ι F H _ g sl fun v1 ι1 F1 H1 st1 g1 q1 => ?_
  refine hb ρ S1 r2 S2 h2 σ ι1 F1 H1 _ g1 (sl.step st1) fun v2 ι2 F2 H2 st2 g2 q2 => ?_
  refine hd ρ S2 r3 S3 h3 σ ι2 F2 H2 _ g2 (sl.step (st1.tr0 st2)) fun v3 ι3 F3 H3 st3 g3 q3 => ?_
  obtain rfl := res_int q1 g1 e1
  obtain rfl := res_int q2 g2 e2
  obtain rfl := res_int q3 g3 e3
  refine ⟨i, j, cc, _, rfl, ⟨e4.1, e4.2.1, e4.2.2.1, (Int.toNat_of_nonneg e4.2.2.2).symm⟩, k _ ι3 F3 H3 ((st1.tr0 st2).tr0 st3) g3 itc_ok⟩
section
variable {K : PySem.W.Frag} {ι : List Addr} {F H : Hp} {σ : L2.St} {ρ : Env} {v : V} {d : D} {i : Nat}
theorem get_set {α : Type} {l : List α} {i j : Nat} {x y : α} (h : (l.set i x)[j]? = some y) : (j = i ∧ y = x) ∨ (j ≠ i ∧ l[j]? = some y) := by
  by_cases e : i = j
  · subst e
    have hl : i < l.length := by
      rcases Nat.lt_or_ge i l.length with q | q
      · exact q
      · rw [List.getElem?_eq_none (by simpa using q)] at h; cases h
    rw [List.getElem?_set_self hl] at h
    cases h
    exact .inl ⟨rfl, rfl⟩
  · rw [List.getElem?_set_ne e] at h
    exact .inr ⟨fun q => e q.symm, h⟩
theorem set_get {α : Type} {l : List α} {i : Nat} {x : α} (h : i < l.length) : (l.set i x)[i]? = some x := List.getElem?_set_self h
theorem lt_get {α : Type} {l : List α} {i : Nat} {x : α} (h : l[i]? = some x) : i < l.length := by
  rcases Nat.lt_or_ge i l.length with q | q
  · exact q
  · rw [List.getElem?_eq_none q] at h; cases h
theorem Slots.setVal (sl : Slots K ι F H σ ρ) (r : Rep K ι F v d) : Slots K ι F H (σ.set i (some v)) (ρ.set i (some (.val d))) where
  len := by simp [sl.len]
  val := fun j d' h => by
    rcases get_set h with ⟨rfl, e⟩ | ⟨n, h'⟩
    · have hl : j < ρ.length := by simpa using lt_get h
      injection e with e1
      injection e1 with e2
      subst e2
      exact ⟨v, set_get (by rw [sl.len]; exact hl), r⟩
    · obtain ⟨w, e1, e2⟩ := sl.val j d' h'
      exact ⟨w, by rw [List.getElem?_set_ne fun q => n q.symm]; exact e1, e2⟩
  own := fun j d' h => by
    rcases get_set h with ⟨rfl, e⟩ | ⟨n, h'⟩
    · injection e with e1; cases e1
    · obtain ⟨w, e1, e2⟩ := sl.own j d' h'
      exact ⟨w, by rw [List.getElem?_set_ne fun q => n q.symm]; exact e1, e2⟩
  inj := fun j k a d1 d2 h1 h2 h3 h4 => by
    rcases get_set h1 with ⟨rfl, e⟩ | ⟨n1, h1'⟩
    · injection e with e1; cases e1
    rcases get_set h2 with ⟨rfl, e⟩ | ⟨n2, h2'⟩
    · injection e with e1; cases e1
    rw [List.getElem?_set_ne fun q => n1 q.symm] at h3
    rw [List.getElem?_set_ne fun q => n2 q.symm] at h4
    exact sl.inj j k a d1 d2 h1' h2' h3 h4
theorem Slots.setNew {a : Addr} (sl : Slots K ι F H σ ρ) (hf : F a = none) (hi : a ∉ ι) (o : OwnO K ι F H a d) (hn : ∀ b, OwnA σ ρ b → b ≠ a) : Slots K ι F H (σ.set i (some (.ref a))) (ρ.set i (some (.new d))) where
  len := by simp [sl.len]
  val := fun j d' h => by
    rcases get_set h with ⟨rfl, e⟩ | ⟨n, h'⟩
    · injection e with e1; cases e1
    · obtain ⟨w, e1, e2⟩ := sl.val j d' h'
      exact ⟨w, by rw [List.getElem?_set_ne fun q => n q.symm]; exact e1, e2⟩
  own := fun j d' h => by
    rcases get_set h with ⟨rfl, e⟩ | ⟨n, h'⟩
    · have hl : j < ρ.length := by simpa using lt_get h
      injection e with e1
      injection e1 with e2
      subst e2
      exact ⟨a, set_get (by rw [sl.len]; exact hl), hf, hi, o⟩
    · obtain ⟨w, e1, e2⟩ := sl.own j d' h'
      exact ⟨w, by rw [List.getElem?_set_ne fun q => n q.symm]; exact e1, e2⟩
  inj := fun j k b d1 d2 h1 h2 h3 h4 => by
    rcases get_set h1 with ⟨rfl, e⟩ | ⟨n1, h1'⟩
    · rcases get_set h2 with ⟨rfl, e⟩ | ⟨n2, h2'⟩
      · rfl
      · have hl : j < ρ.length := by simpa using lt_get h1
        rw [set_get (by rw [sl.len]; exact hl)] at h3
        cases h3
        rw [List.getElem?_set_ne fun q => n2 q.symm] at h4
        exact (hn a ⟨k, d2, h2', h4⟩ rfl).elim
    · rw [List.getElem?_set_ne fun q => n1 q.symm] at h3
      rcases get_set h2 with ⟨rfl, e⟩ | ⟨n2, h2'⟩
      · have hl : k < ρ.length := by simpa using lt_get h2
        rw [set_get (by rw [sl.len]; exact hl)] at h4
        cases h4
        exact (hn a ⟨j, d1, h1', h3⟩ rfl).elim
      · rw [List.getElem?_set_ne fun q => n2 q.symm] at h4
        exact sl.inj j k b d1 d2 h1' h2' h3 h4
theorem Slots.setNone (sl : Slots K ι F H σ ρ) : Slots K ι F H (σ.set i none) (ρ.set i none) where
  len := by simp [sl.len]
  val := fun j d' h => by
    rcases get_set h with ⟨rfl, e⟩ | ⟨n, h'⟩
    · cases e
    · obtain ⟨w, e1, e2⟩ := sl.val j d' h'
      exact ⟨w, by rw [List.getElem?_set_ne fun q => n q.symm]; exact e1, e2⟩
  own := fun j d' h => by
    rcases get_set h with ⟨rfl, e⟩ | ⟨n, h'⟩
    · cases e
    · obtain ⟨w, e1, e2⟩ := sl.own j d' h'
      exact ⟨w, by rw [List.getElem?_set_ne fun q => n q.symm]; exact e1, e2⟩
  inj := fun j k b d1 d2 h1 h2 h3 h4 => by
    rcases get_set h1 with ⟨rfl, e⟩ | ⟨n1, h1'⟩
    · cases e
    rcases get_set h2 with ⟨rfl, e⟩ | ⟨n2, h2'⟩
    · cases e
    rw [List.getElem?_set_ne fun q => n1 q.symm] at h3
    rw [List.getElem?_set_ne fun q => n2 q.symm] at h4
    exact sl.inj j k b d1 d2 h1' h2' h3 h4
theorem Slots.wipe (sl : Slots K ι F H σ ρ) : ∀ vs : List Nat, Slots K ι F H (L2.wipe σ vs) (wipeE ρ vs)
  | [] => sl
  | v :: vs => by
    unfold L2.wipe wipeE
    exact (sl.wipe vs).setNone
end
theorem wipe_set {σ : L2.St} {i : Nat} {x : Option V} : ∀ {vs : List Nat}, i ∈ vs → L2.wipe (σ.set i x) vs = L2.wipe σ vs
  | v :: vs, h => by
    unfold L2.wipe
    by_cases e : i ∈ vs
    · rw [wipe_set e]
    · have hv : i = v := by
        rcases List.mem_cons.mp h with q | q
        · exact q
        · exact (e q).elim
      subst hv
      have key : ∀ (ws : List Nat) (τ : L2.St), i ∉ ws → L2.wipe (τ.set i x) ws = (L2.wipe τ ws).set i x := by
        intro ws
        induction ws with
        | nil => intro τ _; rfl
        | cons w ws ih =>
          intro τ hw
          simp only [List.mem_cons, not_or] at hw
          unfold L2.wipe
          rw [ih τ hw.2, List.set_comm _ _ hw.1]
      rw [key vs σ e, List.set_set]
theorem wipe_wipe {σ : L2.St} : ∀ {vs ws : List Nat}, (∀ v ∈ vs, v ∈ ws) → L2.wipe (L2.wipe σ vs) ws = L2.wipe σ ws
  | [], ws, _ => rfl
  | v :: vs, ws, h => by
    show L2.wipe ((L2.wipe σ vs).set v none) ws = _
    have e : L2.wipe ((L2.wipe σ vs).set v none) ws = L2.wipe (L2.wipe σ vs) ws := wipe_set (h v (by simp))
    have := wipe_wipe (σ := σ) (vs := vs) (ws := ws) fun u hu => h u (by simp [hu])
    rw [e, this]
theorem nm_pg {i : Nat} (c : Ctx C lev T X) (h : trNm T e = some i) : PG X e (gName i) ∧ (assignEach (e :: []) X.env) = [(false, assign e X.env)] := by
  cases e <;> simp only [trNm] at h <;> try cases h
  split at h
  · rename_i hc
    simp only [Bool.and_eq_true, decide_eq_true_eq] at hc
    obtain ⟨h1, h2⟩ := c.st _ hc.1
    exact ⟨pg_name (by rw [c.N]; exact c.nd) (by rw [c.N]; exact slotOf_get h) h1 h2, rfl⟩
  · cases h
theorem nm_each {i : Nat} {es : List Expr} (h : trNm T e = some i) {env : PySem.Env} : assignEach (e :: es) env = (false, assign e env) :: assignEach es env := by
  cases e <;> simp only [trNm] at h <;> try cases h
  simp only [assignEach]
def gNms : List Nat → TGs
  | [] => gNil
  | i :: is => gCons (gName i) (gNms is)
theorem nms_pgs (c : Ctx C lev T X) : ∀ {es : List Expr} {is : List Nat}, trNms T es = some is → PGs X es (gNms is) ∧ (assignEach es X.env).length = is.length ∧ (assignEach es X.env).findIdx? (·.1) = none
  | [], is, h => by
    simp only [trNms, Option.some.injEq] at h
    subst h
    exact ⟨pgs_nil, rfl, rfl⟩
  | e :: es, is, h => by
    simp only [trNms] at h
    split at h
    · rename_i i is' h1 h2
      cases h
      obtain ⟨p1, p2, p3⟩ := nms_pgs c h2
      have q := nm_each (es := es) (env := X.env) h1
      refine ⟨pgs_cons (nm_pg c h1).1 p1 (by rw [q]; rfl), by rw [q]; simp [p2], ?_⟩
      rw [q, List.findIdx?_cons]
      simp [p3]
    · cases h
def foldS : List Nat → List V → L2.St → L2.St
  | i :: is, v :: vs, σ => foldS is vs (σ.set i (some v))
  | _, _, σ => σ
theorem nms_run {H : Hp} {Q : L2.St → Hp → Prop} : ∀ {is : List Nat} {vs : List V} {σ : L2.St}, vs.length = is.length → Q (foldS is vs σ) H → gNms is vs σ H Q
  | [], [], _, _, q => ⟨rfl, q⟩
  | i :: is, v :: vs, _, h, q => ⟨v, vs, rfl, nms_run (by simpa using h) q⟩
  | [], _ :: _, _, h, _ => by simp at h
  | _ :: _, [], _, h, _ => by simp at h
theorem fold_slots {K : PySem.W.Frag} {ι : List Addr} {F H : Hp} : ∀ {is : List Nat} {vs : List V} {ds : List D} {σ : L2.St} {ρ : Env}, Slots K ι F H σ ρ → RepL K ι F vs ds → is.length = ds.length →
    Slots K ι F H (foldS is vs σ) ((is.zip ds).foldl (fun ρ p => ρ.set p.1 (some (.val p.2))) ρ)
  | [], vs, ds, σ, ρ, sl, r, h => by cases ds with | nil => cases r; exact sl | cons _ _ => simp at h
  | i :: is, _, _, σ, ρ, sl, .cons r1 r2, h => by
    simp only [List.zip_cons_cons, List.foldl_cons, foldS]
    exact fold_slots (sl.setVal r1) r2 (by simpa using h)
  | i :: is, _, _, _, _, _, .nil, h => by simp at h
theorem fold_wipe {ws : List Nat} : ∀ {is : List Nat} {vs : List V} {σ : L2.St}, (∀ i ∈ is, i ∈ ws) → L2.wipe (foldS is vs σ) ws = L2.wipe σ ws
  | [], _, _, _ => by simp [foldS]
  | i :: is, [], _, _ => by simp [foldS]
  | i :: is, v :: vs, σ, h => by
    simp only [foldS]
    rw [fold_wipe fun j hj => h j (by simp [hj]), wipe_set (h i (by simp))]
theorem OwnA.unset {σ : L2.St} {ρ : Env} {i : Nat} {x : Option V} {d : D} {a : Addr} (h : OwnA (σ.set i x) (ρ.set i (some (.val d))) a) : OwnA σ ρ a := by
  obtain ⟨j, d', h1, h2⟩ := h
  rcases get_set h1 with ⟨rfl, e⟩ | ⟨n, h1'⟩
  · injection e with e1; cases e1
  · rw [List.getElem?_set_ne fun q => n q.symm] at h2
    exact ⟨j, d', h1', h2⟩
theorem fold_own {a : Addr} : ∀ {is : List Nat} {vs : List V} {ds : List D} {σ : L2.St} {ρ : Env}, vs.length = ds.length → is.length = ds.length →
    OwnA (foldS is vs σ) ((is.zip ds).foldl (fun ρ p => ρ.set p.1 (some (.val p.2))) ρ) a → OwnA σ ρ a
  | [], vs, ds, σ, ρ, _, h, o => by cases ds with | nil => simpa [foldS] using o | cons _ _ => simp at h
  | i :: is, v :: vs, d :: ds, σ, ρ, h1, h2, o => by
    simp only [List.zip_cons_cons, List.foldl_cons, foldS] at o
    exact (fold_own (by simpa using h1) (by simpa using h2) o).unset
  | i :: is, _, [], _, _, _, h, _ => by simp at h
  | i :: is, [], d :: ds, _, _, h, _, _ => by simp at h
theorem tg_val {t : Tg} {ρ ρ' : Env} {d : D} {v : V} {ι : List Addr} {F H : Hp} {σ : L2.St} {Q : L2.St → Hp → Prop} (c : Ctx C lev T X) (h : trG T e = some t) (hs : tgSet t (.val d) ρ = some ρ') (g : Sub F H) (sl : Slots X.K ι F H σ ρ) (r : Rep X.K ι F v d)
    (k : ∀ σ', Slots X.K ι F H σ' ρ' → (∀ ws : List Nat, (∀ i ∈ tgS t, i ∈ ws) → L2.wipe σ' ws = L2.wipe σ ws) → (∀ a, OwnA σ' ρ' a → OwnA σ ρ a) → Q σ' H) : WG X e v σ H Q := by
  have nm : ∀ {i : Nat}, trNm T e = some i → t = .nm i → WG X e v σ H Q := fun {i} hn ht => by
    subst ht
    simp only [tgSet, Option.some.injEq] at hs
    subst hs
    exact ⟨_, (nm_pg c hn).1, k _ (sl.setVal r) (fun ws hw => wipe_set (hw i (by simp [tgS]))) fun a o => o.unset⟩
  have tup : ∀ {es : List Expr} {kk : Nat} {p : Pos}, e = .Tuple es kk p → WG X e v σ H Q := fun {es kk p} he => by
    subst he
    simp only [trG, Option.map_eq_some_iff] at h
    obtain ⟨is, h1, rfl⟩ := h
    cases d <;> simp only [tgSet] at hs <;> try cases hs
    split at hs
    · rename_i ds hl
      cases hs
      cases r with
      | tup hf rl =>
        obtain ⟨p1, p2, p3⟩ := nms_pgs c h1
        refine ⟨_, pg_tup c.calm p1 p2 p3, _, _, rfl, g.sqT hf, by rw [rl.length]; exact hl.symm, nms_run (by rw [rl.length]; exact hl.symm) (k _ (fold_slots sl rl hl) (fun ws hw => fold_wipe hw) fun a o => fold_own rl.length hl o)⟩
    · cases hs
  cases e <;> first | exact tup rfl | (simp only [trG, Option.map_eq_some_iff] at h; obtain ⟨i, h1, h2⟩ := h; exact nm h1 h2.symm)
end Ds
namespace Ds
open PySem PySem.Spec PyProof.Rows L2
variable {C : Orc} {lev : Nat} {T : Tb} {X : Cx} {a b e : Expr} {x y z : Ex} {pos : Pos}
theorem relN_eq {sc : Scope} {env : PySem.Env} {nm : List (Str × NameKind)} (hk : env.scope.kind = .function) (hn : env.scope.names = nm) : (relabel sc env).names = relN nm sc.names := by
  subst hn
  unfold relabel relN
  have h2 : ∀ n, env.kindOf n = env.scope.names.lookup n := fun _ => rfl
  simp only [hk, h2]
  refine List.map_congr_left fun ⟨n, k⟩ _ => ?_
  cases k <;> simp <;> rfl
theorem blk_ctx {sc : Scope} (c : Ctx C lev T X) (h : innerOk T sc = true) (s : Shared) (H : Hp) (Cc : Addr) (cl : List (Str × Addr)) (fp : List Addr) : Ctx C lev (inner T sc) (X.blk s H sc (compEnvC sc cl Cc X.env) fp) := by
  unfold innerOk at h
  simp only [Bool.and_eq_true, List.all_eq_true] at h
  obtain ⟨h1, h2⟩ := h
  have hn : (relabel sc X.env).names = relN T.nm sc.names := relN_eq c.kind c.nm
  have hb := blkOk_by h1
  refine ⟨c.N, c.nd, hn, hb.kind, c.calm, c.room, rfl, fun y hy => ?_, c.cs, c.bl, c.call⟩
  have q := h2 y hy
  simp only [Bool.or_eq_true, Bool.and_eq_true, decide_eq_true_eq] at q
  have e : (X.blk s H sc (compEnvC sc cl Cc X.env) fp).env.scope.names = (inner T sc).nm := hn
  unfold L2.Loc
  rw [e]
  rcases q with q | ⟨q1, q2⟩
  · exact ⟨.inl q, .inr q⟩
  · refine ⟨.inr q1, .inl ?_⟩
    show (sc.names.lookup y == some .cell) = true
    rw [q2]; rfl
theorem stp_set {ι : List Addr} {F H : Hp} {p : Addr} {o : HO} : Stp (fun a => a = p) ι F H ι F (upd H p o) :=
  ⟨.refl, .refl, fun a u h n => (by rw [n] at h; cases h), fun _ h n => (n h).elim, fun a u h _ n => (by rw [upd_ne n]; exact h), fun a u h => (by
    by_cases e : a = p
    · subst e; exact ⟨o, upd_same⟩
    · exact ⟨u, by rw [upd_ne e]; exact h⟩)⟩
theorem Good.set {K : PySem.W.Frag} {ι : List Addr} {F H : Hp} {S : Sto} (g : Good K ι F H S) {p : Addr} {o : HO} (hf : F p = none) (hi : p ∉ ι) : Good K ι F (upd H p o) S where
  sub := fun a u h => by rw [upd_ne (ne_of_none h hf)]; exact g.sub a u h
  len := g.len
  cells := fun n a d h1 h2 => by
    obtain ⟨f, ow⟩ := g.cells n a d h1 h2
    have hne : a ≠ p := fun e => hi (e ▸ List.mem_of_getElem? h1)
    exact ⟨f, ow.up .refl .refl (upd_ne hne)⟩
  nod := g.nod
def teW (X : Cx) (sc : Scope) (e : Expr) : TE := fun σ H Q => ∀ (s : Shared) (H0 : Hp) (Cc : Addr) (cl : List (Str × Addr)) (fp : List Addr), WE (X.blk s H0 sc (compEnvC sc cl Cc X.env) fp) e σ H Q
def ttW (X : Cx) (sc : Scope) (e : Expr) : TT := fun σ H Q => ∀ (s : Shared) (H0 : Hp) (Cc : Addr) (cl : List (Str × Addr)) (fp : List Addr), WT (X.blk s H0 sc (compEnvC sc cl Cc X.env) fp) e σ H Q
def tgW (X : Cx) (sc : Scope) (e : Expr) : TG := fun v σ H Q => ∀ (s : Shared) (H0 : Hp) (Cc : Addr) (cl : List (Str × Addr)) (fp : List Addr), WG (X.blk s H0 sc (compEnvC sc cl Cc X.env) fp) e v σ H Q
structure LcOk (C : Orc) (T : Tb) (X : Cx) (sc : Scope) (elt tg : Expr) (x : Ex) (t : Tg) (tt : TT) (c : Ox) : Prop where
  elt : ∀ (s : Shared) (H0 : Hp) (Cc : Addr) (cl : List (Str × Addr)) (fp : List Addr), SndE C (X.blk s H0 sc (compEnvC sc cl Cc X.env) fp) elt x
  tg : trG (inner T sc) tg = some t
  ow : ∀ i ∈ tgS t, i ∈ (ownOf T.N sc.names).map (·.2)
  tt : ∀ ρ S b S', evC C ρ c S = some (b, S') → ∀ σ ι F H Q, Good X.K ι F H S → Slots X.K ι F H σ ρ → (∀ ι' F' H', Stp NoO ι F H ι' F' H' → Good X.K ι' F' H' S' → Q b H') → tt σ H Q
theorem lc_run {sc : Scope} {elt tg iter : Expr} {t : Tg} {i : Iy} {cc : Ox} {tt : TT} (c : Ctx C lev T X) (hb : innerOk T sc = true) (hi : SndI C X iter i) (L : LcOk C T X sc elt tg x t tt cc)
    {ρ : Env} {S S' : Sto} {r : R} (h : evE C ρ (.lc x ((ownOf T.N sc.names).map (·.2)) t i cc) S = some (r, S')) {σ : L2.St} {ι : List Addr} {F H : Hp} {Q : VK} (g : Good X.K ι F H S) (sl : Slots X.K ι F H σ ρ) (k : Fin X (OwnA σ ρ) ι F H S' r Q) :
    tLc (WI X tg iter) (tgW X sc tg) tt (teW X sc elt) ((ownOf T.N sc.names).map (·.2)) σ H Q := by
  generalize hvs : (ownOf T.N sc.names).map (·.2) = vs at *
  simp only [evE] at h
  obtain ⟨ds, S1, h1, h⟩ := at_some h
  obtain ⟨out, S2, h2, h⟩ := at_some h
  split at h
  case isFalse => cases h
  rename_i hz
  cases h
  refine hi ρ S ds S1 h1 σ ι F H g sl tg _ fun J ι1 F1 H1 st1 g1 iok Dn hD => ?_
  have hDn : F1 Dn = none := sub_new (o := .lst []) g1.sub hD
  have hDi : Dn ∉ ι1 := g1.notin hD
  have st0 : Stp NoO ι1 F1 H1 ι1 F1 (upd H1 Dn (.lst [])) := stp_new hD
  refine ⟨fun j m H' => m = ds.length - j ∧ j ≤ ds.length ∧ ∃ ι' F' Sj acc accV rest, Stp (fun a => a = Dn) ι1 F1 (upd H1 Dn (.lst [])) ι' F' H' ∧ Good X.K ι' F' H' Sj ∧ F' Dn = none ∧ Dn ∉ ι' ∧ H' Dn = some (.lst accV) ∧ RepL X.K ι' F' accV acc ∧
      lcLoop (fun x ρ' => tgSet t (.val x) ρ') (fun ρ' => evC C ρ' cc) (fun ρ' => evE C ρ' x) (wipeE ρ vs) (ds.drop j) Sj = some (rest, S') ∧ acc ++ rest = out,
    ⟨ds.length, rfl, Nat.zero_le _, ι1, F1, S1, [], [], out, .refl, g1.new hD, hDn, hDi, upd_same, .nil, by simpa using h2, rfl⟩, ?_⟩
  rintro j m H' ⟨rfl, hj, ι', F', Sj, acc, accV, rest, st, gj, hF, hI, hV, rv, hl, ho⟩
  have stA : Stp NoO ι F H ι' F' H' := (st1.tr0 st0).trans st fun a e => .inr (by subst e; exact st1.dead hD)
  have pre1 : Pre ι1 ι' := st.pre
  obtain ⟨io1, io2⟩ := iok ι' F' H' Sj pre1 st.mono gj
  by_cases hlt : j < ds.length
  · -- a turn
    have hd : ds[j]? = some ds[j] := List.getElem?_eq_getElem hlt
    obtain ⟨go, yl⟩ := io1 j _ hd
    rw [List.drop_eq_getElem_cons hlt] at hl
    simp only [lcLoop] at hl
    split at hl
    · cases hl
    rename_i ρ' hρ
    obtain ⟨bt, Sb, hb1, hl⟩ := at_some hl
    refine .inr ⟨go, fun H5 => ∃ m', m' < ds.length - j ∧ (m' = ds.length - (j + 1) ∧ j + 1 ≤ ds.length ∧ ∃ ι' F' Sj acc accV rest, Stp (fun a => a = Dn) ι1 F1 (upd H1 Dn (.lst [])) ι' F' H5 ∧ Good X.K ι' F' H5 Sj ∧ F' Dn = none ∧ Dn ∉ ι' ∧ H5 Dn = some (.lst accV) ∧ RepL X.K ι' F' accV acc ∧
      lcLoop (fun x ρ' => tgSet t (.val x) ρ') (fun ρ' => evC C ρ' cc) (fun ρ' => evE C ρ' x) (wipeE ρ vs) (ds.drop (j + 1)) Sj = some (rest, S') ∧ acc ++ rest = out), fun H5 q => q, fun v H2 hy => ?_⟩
    obtain ⟨F2, st2, g2, rp⟩ := yl v H2 hy
    have ow : OwnO X.K ι' F' H' Dn (.lst acc) := ⟨accV, hV, rv⟩
    obtain ⟨f2, n2, ow2⟩ := st2.own ow hF hI fun z => z
    have stB : Stp NoO ι F H ι' F2 H2 := stA.tr0 st2
    have slB := (sl.step stB).wipe vs
    intro s0 H0 Cc cl fp
    have cB := blk_ctx c hb s0 H0 Cc cl fp
    refine tg_val cB L.tg hρ g2.sub slB rp fun σ2 sl2 hw _ => ?_
    have hw' : L2.wipe σ2 vs = L2.wipe (L2.wipe σ vs) vs := hw vs fun i hi => by rw [← hvs]; exact L.ow i hi
    refine ⟨by rw [hw', wipe_wipe fun _ q => q], ?_⟩
    refine L.tt ρ' Sj bt Sb hb1 σ2 ι' F2 H2 _ g2 sl2 fun ι3 F3 H3 st3 g3 => ?_
    obtain ⟨f3, n3, ow3⟩ := st3.own ow2 f2 n2 fun z => z
    have stC : Stp (fun a => a = Dn) ι1 F1 (upd H1 Dn (.lst [])) ι3 F3 H3 := (st.tr0 st2).tr0 st3
    cases bt with
    | false =>
      refine iteF ⟨ds.length - (j + 1), by omega, rfl, by omega, ι3, F3, Sb, acc, ?_⟩
      obtain ⟨aV, hV3, rv3⟩ := ow3
      exact ⟨aV, rest, stC, g3, f3, n3, hV3, rv3, hl, ho⟩
    | true =>
      refine iteT ?_
      simp only [if_true] at hl
      obtain ⟨re, Se, he, hl⟩ := at_some hl
      split at hl
      · cases hl
      rename_i d hp
      obtain ⟨rest2, S3, hr, hl⟩ := at_some hl
      cases hl
      intro s1 H01 Cc1 cl1 fp1
      refine (L.elt s1 H01 Cc1 cl1 fp1).rep he hp g3 (sl2.step st3) fun w ι4 F4 H4 st4 g4 rp4 => ?_
      obtain ⟨f4, n4, aV, hV4, rv4⟩ := st4.own ow3 f3 n3 fun z => z
      have hlen : acc.length + 1 ≤ out.length := by rw [← ho]; simp
      refine ⟨aV, hV4, by rw [rv4.length]; omega, ds.length - (j + 1), by omega, rfl, by omega, ι4, F4, Se, acc ++ [d], aV ++ [w], rest2, ?_, g4.set f4 n4, f4, n4, upd_same, rv4.append (.cons rp4 .nil), hr, by rw [← ho]; simp⟩
      exact (stC.tr0 st4).trans stp_set fun a e => .inl e
  · have e : j = ds.length := by omega
    subst e
    rw [List.drop_length] at hl
    simp only [lcLoop, Option.some.injEq, Prod.mk.injEq] at hl
    obtain ⟨rfl, rfl⟩ := hl
    rw [List.append_nil] at ho
    subst ho
    exact .inl ⟨io2, k (.ref Dn) ι' F' H' stA gj ⟨Dn, rfl, st1.dead hD, hF, hI, accV, hV, rv⟩⟩
theorem te_pe {sc : Scope} {elt : Expr} (s : Shared) (H0 : Hp) (Cc : Addr) (cl : List (Str × Addr)) (fp : List Addr) : PE (X.blk s H0 sc (compEnvC sc cl Cc X.env) fp) elt (teW X sc elt) := ⟨fun pins s' σ H Q I h => WE.pe.run pins s' σ H Q I (h s H0 Cc cl fp)⟩
theorem tt_pt {sc : Scope} {elt : Expr} (s : Shared) (H0 : Hp) (Cc : Addr) (cl : List (Str × Addr)) (fp : List Addr) : PT (X.blk s H0 sc (compEnvC sc cl Cc X.env) fp) elt (ttW X sc elt) := ⟨fun pins s' σ H Q I h => WT.pt.run pins s' σ H Q I (h s H0 Cc cl fp)⟩
theorem tg_pg {sc : Scope} {elt : Expr} (s : Shared) (H0 : Hp) (Cc : Addr) (cl : List (Str × Addr)) (fp : List Addr) : PG (X.blk s H0 sc (compEnvC sc cl Cc X.env) fp) elt (tgW X sc elt) := ⟨fun pins s' σ H v u Q I r h => WG.pg.run pins s' σ H v u Q I r (h s H0 Cc cl fp)⟩
structure LcE (C : Orc) (X : Cx) (elt tg iter : Expr) (ifs : List Expr) (sc : Scope) (z : Ex) : Prop where
  own : BlkOk X.N X.env.scope sc (ownOf X.N sc.names)
  set : setB iter = false
  ex : ∃ tt : TT, (∀ (s : Shared) (H0 : Hp) (Cc : Addr) (cl : List (Str × Addr)) (fp : List Addr), PTs (X.blk s H0 sc (compEnvC sc cl Cc X.env) fp) ifs tt) ∧
    ∀ ρ S r S', evE C ρ z S = some (r, S') → ∀ σ ι F H Q, Good X.K ι F H S → Slots X.K ι F H σ ρ → Fin X (OwnA σ ρ) ι F H S' r Q →
      tLc (WI X tg iter) (tgW X sc tg) tt (teW X sc elt) ((ownOf X.N sc.names).map (·.2)) σ H Q
theorem LcE.snd {elt tg iter : Expr} {ifs : List Expr} {sc : Scope} (c : Ctx C lev T X) (L : LcE C X elt tg iter ifs sc z) : SndE C X (.ListComp elt [⟨tg, iter, ifs, 0⟩] sc pos) z := by
  intro ρ S r S' h σ ι F H Q g sl k
  obtain ⟨tt, h1, h2⟩ := L.ex
  exact ⟨_, pe_lc c.calm (by rw [c.N]; exact c.nd) WI.pi L.own tg_pg h1 te_pe (fun x => noset L.set), h2 ρ S r S' h σ ι F H Q g sl k⟩
theorem lcE_of {elt tg iter : Expr} {sc : Scope} {t : Tg} {i : Iy} (c : Ctx C lev T X) (hb : innerOk T sc = true) (hi : SndI C X iter i) (hs : setB iter = false) (htg : trG (inner T sc) tg = some t) (hw : (tgS t).all (fun j => decide (j ∈ (ownOf T.N sc.names).map (·.2))) = true)
    (he : ∀ X', Ctx C lev (inner T sc) X' → SndE C X' elt x) {ifs : List Expr} {cc : Ox}
    (hc : (ifs = [] ∧ cc = .no) ∨ ∃ e x', ifs = [e] ∧ cc = .yes x' ∧ ∀ X', Ctx C lev (inner T sc) X' → SndT C X' e x') : LcE C X elt tg iter ifs sc (.lc x ((ownOf T.N sc.names).map (·.2)) t i cc) := by
  have hb' := hb
  unfold innerOk at hb'
  simp only [Bool.and_eq_true] at hb'
  have bo : BlkOk X.N X.env.scope sc (ownOf X.N sc.names) := by
    have q := blkOk_by hb'.1
    rw [c.N]
    exact ⟨q.kind, q.uniq, q.ix, fun y hy e => by rw [c.nm]; exact q.free y hy e, q.own⟩
  have ow : ∀ j ∈ tgS t, j ∈ (ownOf T.N sc.names).map (·.2) := fun j hj => of_decide_eq_true (List.all_eq_true.mp hw j hj)
  rcases hc with ⟨rfl, rfl⟩ | ⟨e, x', rfl, rfl, ht⟩
  · refine ⟨bo, hs, tYes, fun _ _ _ _ _ => pts_nil, fun ρ S r S' h σ ι F H Q g sl k => ?_⟩
    rw [c.N]
    refine lc_run c hb hi ⟨fun s H0 Cc cl fp => he _ (blk_ctx c hb s H0 Cc cl fp), htg, ow, fun ρ S b S' h σ ι F H Q g sl k => ?_⟩ h g sl k
    simp only [evC, Option.some.injEq, Prod.mk.injEq] at h
    obtain ⟨rfl, rfl⟩ := h
    exact k ι F H .refl g
  · refine ⟨bo, hs, ttW X sc e, fun s H0 Cc cl fp => pts_one (tt_pt s H0 Cc cl fp), fun ρ S r S' h σ ι F H Q g sl k => ?_⟩
    rw [c.N]
    refine lc_run c hb hi ⟨fun s H0 Cc cl fp => he _ (blk_ctx c hb s H0 Cc cl fp), htg, ow, fun ρ S b S' h σ ι F H Q g sl k => ?_⟩ h g sl k
    simp only [evC] at h
    obtain ⟨r1, S1, h1, h⟩ := at_some h
    obtain ⟨h2, rfl⟩ := ws_some h
    exact fun s H0 Cc cl fp => ht _ (blk_ctx c hb s H0 Cc cl fp) ρ S r1 S1 b h1 h2 σ ι F H Q g sl k
theorem SndI.noset {n : Nat} {i : Iy} (h : trI T n e = some i) : setB e = false := by
  cases n with
  | zero => simp [trI] at h
  | succ n => cases e <;> first | rfl | simp [trI, setB] at h
structure All (C : Orc) (lev : Nat) (n : Nat) : Prop where
  e : ∀ {T X e x}, Ctx C lev T X → trE T n e = some x → SndE C X e x ∧ SndT C X e x
  a : ∀ {T X es xs}, Ctx C lev T X → trA T n es = some xs → SndA C X es xs
  o : ∀ {T X e x}, Ctx C lev T X → trO T n e = some x → SndO C X e x
  i : ∀ {T X e x}, Ctx C lev T X → trI T n e = some x → SndI C X e x
theorem SndE.both {X : Cx} {e : Expr} {x : Ex} (h : SndE C X e x) (p : testB e = false) : SndE C X e x ∧ SndT C X e x := ⟨h, h.plain p⟩
theorem find_get {fs : List Str} {f : Str} {k : Nat} (h : fs.findIdx? (· == f) = some k) : fs[k]? = some f := by
  obtain ⟨hk, h1, _⟩ := List.findIdx?_eq_some_iff_getElem.mp h
  rw [List.getElem?_eq_getElem hk]
  rw [eq_of_beq h1]
theorem all_e {n : Nat} (A : All C lev n) {T : Tb} {X : Cx} {e : Expr} {x : Ex} (c : Ctx C lev T X) (h : trE T (n + 1) e = some x) : SndE C X e x ∧ SndT C X e x := by
  unfold trE at h
  split at h
  · simp only [Option.map_eq_some_iff] at h
    obtain ⟨d, h1, rfl⟩ := h
    exact (snd_lit h1).both rfl
  · split at h
    · cases h
    rename_i hd
    have hd' := (Bool.not_eq_true _).mp hd
    split at h
    · rename_i hv
      simp only [Option.map_eq_some_iff] at h
      obtain ⟨i, h1, rfl⟩ := h
      exact (snd_nm c hd' hv h1).both rfl
    · split at h
      · rename_i hg
        simp only [Option.map_eq_some_iff] at h
        obtain ⟨i, h1, rfl⟩ := h
        exact (snd_gl c hd' hg h1).both rfl
      · cases h
  · split at h
    · rename_i o x y h1 h2 h3
      cases h
      exact (snd_bin c (A.e c h2).1 (A.e c h3).1 h1).both rfl
    · cases h
  · simp only [Option.map_eq_some_iff] at h
    obtain ⟨x, h1, rfl⟩ := h
    exact ⟨snd_not (A.e c h1).1, snd_notT (A.e c h1).2⟩
  · simp only [Option.map_eq_some_iff] at h
    obtain ⟨x, h1, rfl⟩ := h
    exact (snd_neg c (A.e c h1).1).both rfl
  · exact ⟨snd_one (A.e c h).1, snd_oneT (A.e c h).2⟩
  · split at h
    · rename_i x y h1 h2
      cases h
      exact ⟨snd_and (A.e c h1).1 (A.e c h2).1, snd_andT (A.e c h1).2 (A.e c h2).2⟩
    · cases h
  · split at h
    · rename_i x y h1 h2
      cases h
      exact ⟨snd_or (A.e c h1).1 (A.e c h2).1, snd_orT (A.e c h1).2 (A.e c h2).2⟩
    · cases h
  · split at h
    · rename_i x y z h1 h2 h3
      cases h
      exact ⟨snd_ite (A.e c h1).2 (A.e c h2).1 (A.e c h3).1, snd_iteT (A.e c h1).2 (A.e c h2).2 (A.e c h3).2⟩
    · cases h
  · split at h
    · cases h
    rename_i hs
    split at h
    · rename_i x y h1 h2
      cases h
      have hs' := (Bool.not_eq_true _).mp hs
      exact ⟨snd_cmp c (A.e c h1).1 (A.e c h2).1 hs', snd_cmpT c (A.e c h1).1 (A.e c h2).1 hs'⟩
    · cases h
  · split at h
    · cases h
    rename_i hs
    split at h
    · rename_i x y z h1 h2 h3
      cases h
      simp only [Bool.or_eq_true, not_or, Bool.not_eq_true] at hs
      exact ⟨snd_chn c (A.e c h1).1 (A.e c h2).1 (A.e c h3).1 hs.2, snd_chnT c (A.e c h1).1 (A.e c h2).1 (A.e c h3).1 hs.2⟩
    · cases h
  · simp only [Option.map_eq_some_iff] at h
    obtain ⟨x, h1, rfl⟩ := h
    exact (snd_tup (A.a c h1)).both rfl
  · simp only [Option.map_eq_some_iff] at h
    obtain ⟨x, h1, rfl⟩ := h
    exact (snd_lst (A.a c h1)).both rfl
  · split at h
    · rename_i x l hh h1 h2 h3
      cases h
      exact (snd_sl (A.e c h1).1 (A.o c h2) (A.o c h3)).both rfl
    · cases h
  · split at h
    · cases h
    rename_i hs
    split at h
    · rename_i x y h1 h2
      cases h
      exact (snd_ix (A.e c h1).1 (A.e c h2).1 (by simpa using hs)).both rfl
    · cases h
  · split at h
    · cases h
    rename_i hd
    simp only [Bool.or_eq_true, not_or, Bool.not_eq_true, Bool.not_eq_false'] at hd
    obtain ⟨hd, hg⟩ := hd
    have hg := (Bool.not_eq_false _).mp (by simpa using hg)
    split at h
    · rename_i k hk
      split at h
      · cases h
      rename_i he
      simp only [Option.map_eq_some_iff] at h
      obtain ⟨xs, h1, rfl⟩ := h
      rename_i args _ _ _
      cases args with
      | nil => simp at he
      | cons a0 es => exact (snd_call c hd hg (find_get hk) (A.a c h1) (trA_star h1)).both rfl
    · split at h
      · cases h
      rename_i hbl
      simp only [Bool.not_eq_true', decide_eq_false_iff_not, Classical.not_not] at hbl
      split at h
      · rename_i hf
        subst hf
        split at h
        · split at h
          · rename_i x t l h1 h2
            split at h
            · rename_i hl
              cases h
              exact (snd_isiN c hg hbl (A.e c h1).1 (trE_star h1) h2 hl).both rfl
            · cases h
          · cases h
        · split at h
          · rename_i x l h1 h2
            cases h
            exact (snd_isi1 c hg hbl (A.e c h1).1 (trE_star h1) h2).both rfl
          · cases h
        · cases h
      · split at h
        · rename_i b a0 hb
          simp only [Option.map_eq_some_iff] at h
          obtain ⟨x, h1, rfl⟩ := h
          obtain rfl := biOf_n hb
          exact (snd_bi c hd hg hbl (A.e c h1).1 (trE_star h1)).both rfl
        · cases h
  · split at h
    · rename_i hb
      split at h
      · rename_i x g i cc h1 h2 h3 h4
        split at h
        · rename_i hw
          cases h
          refine (LcE.snd c (lcE_of c hb (A.i c h3) (SndI.noset h3) h2 hw (fun X' c' => (A.e c' h1).1) ?_)).both rfl
          split at h4
          · cases h4; exact .inl ⟨rfl, rfl⟩
          · simp only [Option.map_eq_some_iff] at h4
            obtain ⟨x', h5, rfl⟩ := h4
            exact .inr ⟨_, x', rfl, rfl, fun X' c' => (A.e c' h5).2⟩
          · cases h4
        · cases h
      · cases h
    · cases h
  · cases h
theorem all_a {n : Nat} (A : All C lev n) {T : Tb} {X : Cx} {es : List Expr} {xs : Exs} (c : Ctx C lev T X) (h : trA T (n + 1) es = some xs) : SndA C X es xs := by
  cases es with
  | nil => simp only [trA, Option.some.injEq] at h; subst h; exact sndA_nil
  | cons e es =>
    simp only [trA] at h
    split at h
    · cases h
    rename_i hs
    split at h
    · rename_i x xs h1 h2
      cases h
      exact sndA_cons (A.e c h1).1 (A.a c h2) ((Bool.not_eq_true _).mp hs)
    · cases h
theorem all_o {n : Nat} (A : All C lev n) {T : Tb} {X : Cx} {e : Option Expr} {x : Ox} (c : Ctx C lev T X) (h : trO T (n + 1) e = some x) : SndO C X e x := by
  cases e with
  | none => simp only [trO, Option.some.injEq] at h; subst h; exact sndO_no
  | some e =>
    simp only [trO, Option.map_eq_some_iff] at h
    obtain ⟨x, h1, rfl⟩ := h
    exact sndO_yes (A.e c h1).1
theorem all_i {n : Nat} (A : All C lev n) {T : Tb} {X : Cx} {e : Expr} {x : Iy} (c : Ctx C lev T X) (h : trI T (n + 1) e = some x) : SndI C X e x := by
  unfold trI at h
  split at h
  · split at h
    · rename_i hf
      subst hf
      rename_i kw _
      by_cases hc : (!(isGl (T.nm.lookup ("range" : Str)) && decide (("range" : Str) ∈ T.bl)) || kwB kw) = true
      · rw [if_pos hc] at h; cases h
      rw [if_neg hc] at h
      simp only [Bool.or_eq_true, not_or, Bool.not_eq_true, Bool.not_eq_false', Bool.and_eq_true, decide_eq_true_eq] at hc
      obtain ⟨⟨hg, hm⟩, hk⟩ := hc
      have hk' : kw = [] := by cases kw <;> first | rfl | cases hk
      subst hk'
      split at h
      · split at h
        · cases h
        rename_i hs
        simp only [Option.map_eq_some_iff] at h
        obtain ⟨x, h1, rfl⟩ := h
        exact sndI_rng1 c hg hm (A.e c h1).1 ((Bool.not_eq_true _).mp hs)
      · split at h
        · cases h
        rename_i hs
        simp only [Bool.or_eq_true, not_or, Bool.not_eq_true] at hs
        split at h
        · rename_i x y h1 h2
          cases h
          exact sndI_rng2 c hg hm (A.e c h1).1 hs.1 (A.e c h2).1 hs.2
        · cases h
      · split at h
        · cases h
        rename_i hs
        simp only [Bool.or_eq_true, not_or, Bool.not_eq_true] at hs
        split at h
        · rename_i x y z h1 h2 h3
          cases h
          exact sndI_rng3 c hg hm (A.e c h1).1 hs.1.1 (A.e c h2).1 hs.1.2 (A.e c h3).1 hs.2
        · cases h
      · cases h
    · simp only [Option.map_eq_some_iff] at h
      obtain ⟨x, h1, rfl⟩ := h
      exact sndI_seq (A.e c h1).1
  · split at h
    · cases h
    simp only [Option.map_eq_some_iff] at h
    obtain ⟨x, h1, rfl⟩ := h
    exact sndI_seq (A.e c h1).1
theorem all : ∀ n : Nat, All C lev n
  | 0 => ⟨fun _ h => by simp [trE] at h, fun _ h => by simp [trA] at h, fun _ h => by simp [trO] at h, fun _ h => by simp [trI] at h⟩
  | n + 1 => ⟨all_e (all n), all_a (all n), all_o (all n), all_i (all n)⟩
theorem all_lc {n : Nat} {T : Tb} {X : Cx} {elt tg iter : Expr} {ifs : List Expr} {sc : Scope} {x : Ex} (c : Ctx C lev T X) (h : trE T n (.ListComp elt [⟨tg, iter, ifs, 0⟩] sc pos) = some x) : LcE C X elt tg iter ifs sc x := by
  cases n with
  | zero => simp [trE] at h
  | succ n =>
    have A := all (C := C) (lev := lev) n
    simp only [trE] at h
    split at h
    · rename_i hb
      split at h
      · rename_i x g i cc h1 h2 h3 h4
        split at h
        · rename_i hw
          cases h
          refine lcE_of c hb (A.i c h3) (SndI.noset h3) h2 hw (fun X' c' => (A.e c' h1).1) ?_
          split at h4
          · cases h4; exact .inl ⟨rfl, rfl⟩
          · simp only [Option.map_eq_some_iff] at h4
            obtain ⟨x', h5, rfl⟩ := h4
            exact .inr ⟨_, x', rfl, rfl, fun X' c' => (A.e c' h5).2⟩
          · cases h4
        · cases h
      · cases h
    · cases h
end Ds
namespace Ds
open PySem PySem.Spec PyProof.Rows L2
def muOf (m : Str) : Option Mu :=
  if m = "append" then some .append else if m = "extend" then some .extend else if m = "pop" then some .pop else if m = "clear" then some .clear else if m = "reverse" then some .reverse else none
def muS : Mu → String
  | .append => "append" | .extend => "extend" | .pop => "pop" | .clear => "clear" | .reverse => "reverse" | .set => "__setitem__"
def muI : Mu → String
  | .append => "list.append" | .extend => "list.extend" | .pop => "list.pop" | .clear => "list.clear" | .reverse => "list.reverse" | .set => "list.__setitem__"
def objB : Expr → Bool
  | .Name _ _ => true
  | .Subscript _ _ _ => true
  | _ => false
def compB : Expr → Bool
  | .ListComp _ _ _ _ => true
  | .SetComp _ _ _ _ => true
  | .DictComp _ _ _ _ _ => true
  | _ => false
def tupB : Expr → Bool
  | .Tuple _ _ _ => true
  | _ => false
def stLine : Stmt → Nat
  | .Expr _ p => p.line
  | .Assign _ _ p => p.line
  | .If _ _ _ p => p.line
  | .For _ _ _ _ p => p.line
  | .While _ _ _ p => p.line
  | .Return _ p => p.line
  | _ => 0
def frzPre : List Nat → Sms → Sms
  | [], s => s
  | i :: is, s => .cons (.frz i) (frzPre is s)
def swB (T : Tb) (y : Str) (py : Pos) (sc : Scope) (pos : Pos) : Bool :=
  decide (T.nm.lookup y = some .local) && (py.line == pos.line) && !(sc.names.any fun (n, k) => n == y && (k == .local || k == .cell))
def trM (T : Tb) (n : Nat) : Expr → Option (Mu × Ex × Exs)
  | .Call (.Attribute o m ap) args [] cp => match muOf m with
    | none => none
    | some mu => if objB o && (ap.endLine == cp.line) && decide (args.length < 20) then match trE T n o, trA T n args with
        | some x, some xs => some (mu, x, xs)
        | _, _ => none
      else none
  | _ => none
def trAsg (T : Tb) (n : Nat) (t e : Expr) (line : Nat) : Option Sm :=
  if decide (line ∈ T.nw) then (if compB e then none else match trNm T t, trE T n e with
    | some i, some x => some (.new i x)
    | _, _ => none)
  else match e with
  | .ListComp elt [⟨tg, iter, ifs, 0⟩] sc p => match t with
    | .Name y py => if swB T y py sc p || decide (T.nm.lookup y = some .local) then match trNm T t, trE T n e with
        | some i, some x => some (.asg (.nm i) x)
        | _, _ => none
      else none
    | _ => none
  | e => if compB e || (tupB t && tupB e) then none else match trG T t, trE T n e with
    | some g, some x => some (.asg g x)
    | _, _ => none
mutual
def trS (T : Tb) : Nat → Stmt → Option Sm
  | 0, _ => none
  | n + 1, s => match s with
    | .Expr e _ => match trM T n e with
      | some (mu, x, xs) => some (.mut none mu x xs)
      | none => if compB e then none else (trE T n e).map .ex
    | .Assign [.Subscript o k _] e _ => if !objB o || compB e || sliceB k then none else match trE T n o, trE T n k, trE T n e with
      | some x, some y, some z => some (.six x y z)
      | _, _, _ => none
    | .Assign [t] e p => match trM T n e with
      | some (mu, x, xs) => (trG T t).map fun g => .mut (some g) mu x xs
      | none => trAsg T n t e p.line
    | .If c a b _ => match trE T n c, trSs T n a, trSs T n b with
      | some x, some y, some z => some (.iff x y z)
      | _, _, _ => none
    | .For t i b [] _ => if setB i then none else match trG T t, trI T n i, trSs T n b with
      | some g, some x, some y => some (.fr g x y)
      | _, _, _ => none
    | .While c b [] _ => match trE T n c, trSs T n b with
      | some x, some y => some (.whl x y)
      | _, _ => none
    | .Return (some e) _ => (trE T n e).map .ret
    | .Return none _ => some .retN
    | .Pass _ => some .pas
    | .Break _ => some .brk
    | .Continue _ => some .cnt
    | _ => none
def trSs (T : Tb) : Nat → List Stmt → Option Sms
  | 0, _ => none
  | _ + 1, [] => some .nil
  | n + 1, s :: r => match trS T n s, trSs T n r with
    | some x, some y => some (frzPre ((T.fz.lookup (stLine s)).getD []) (.cons x y))
    | _, _ => none
end
section
variable {X : Cx} {C : Orc} {lev W : Nat}
def KN (X : Cx) (σ : L2.St) (ρ : Env) (ι : List Addr) (F H : Hp) (S' : Sto) (ρ' : Env) (P : L2.St → Hp → Prop) : Prop :=
  ∀ σ' ι' F' H', Stp (OwnA σ ρ) ι F H ι' F' H' → Good X.K ι' F' H' S' → Slots X.K ι' F' H' σ' ρ' → (∀ a, OwnA σ' ρ' a → OwnA σ ρ a ∨ H a = none) → P σ' H'
def RetOk (K : PySem.W.Frag) (σ : L2.St) (ρ : Env) (H : Hp) (ι' : List Addr) (F' H' : Hp) (v : V) : R → Prop
  | .val d => Rep K ι' F' v d
  | .new d => ∃ a, v = .ref a ∧ (OwnA σ ρ a ∨ H a = none) ∧ F' a = none ∧ a ∉ ι' ∧ OwnO K ι' F' H' a d
  | .brw _ => False
def KR (X : Cx) (σ : L2.St) (ρ : Env) (ι : List Addr) (F H : Hp) (S' : Sto) (r : R) (P : VK) : Prop :=
  ∀ v ι' F' H', Stp (OwnA σ ρ) ι F H ι' F' H' → Good X.K ι' F' H' S' → RetOk X.K σ ρ H ι' F' H' v r → P v H'
def Ko (X : Cx) (σ : L2.St) (ρ : Env) (ι : List Addr) (F H : Hp) (S' : Sto) (D : Ends) : Out → Prop
  | .nx ρ' => KN X σ ρ ι F H S' ρ' D.nx
  | .bk ρ' => KN X σ ρ ι F H S' ρ' D.bk
  | .ct ρ' => KN X σ ρ ι F H S' ρ' D.ct
  | .rt r => KR X σ ρ ι F H S' r D.rt
variable {σ σ1 : L2.St} {ρ ρ1 ρ' : Env} {ι ι1 : List Addr} {F F1 H H1 : Hp} {S S' : Sto} {P : L2.St → Hp → Prop} {Dd : Ends}
theorem KN.step (st : Stp (OwnA σ ρ) ι F H ι1 F1 H1) (w : ∀ a, OwnA σ1 ρ1 a → OwnA σ ρ a ∨ H a = none) (k : KN X σ ρ ι F H S' ρ' P) : KN X σ1 ρ1 ι1 F1 H1 S' ρ' P := fun σ' ι' F' H' st' g sl w' =>
  k σ' ι' F' H' (st.trans st' w) g sl fun a h => by
    rcases w' a h with q | q
    · exact w a q
    · exact .inr (st.dead q)
theorem KR.step {r : R} {Q : VK} (st : Stp (OwnA σ ρ) ι F H ι1 F1 H1) (w : ∀ a, OwnA σ1 ρ1 a → OwnA σ ρ a ∨ H a = none) (k : KR X σ ρ ι F H S' r Q) : KR X σ1 ρ1 ι1 F1 H1 S' r Q := fun v ι' F' H' st' g q =>
  k v ι' F' H' (st.trans st' w) g (by
    cases r with
    | val d => exact q
    | new d =>
      obtain ⟨a, e, h, q⟩ := q
      refine ⟨a, e, ?_, q⟩
      rcases h with h | h
      · exact w a h
      · exact .inr (st.dead h)
    | brw d => exact q)
theorem Ko.step {o : Out} (st : Stp (OwnA σ ρ) ι F H ι1 F1 H1) (w : ∀ a, OwnA σ1 ρ1 a → OwnA σ ρ a ∨ H a = none) (k : Ko X σ ρ ι F H S' Dd o) : Ko X σ1 ρ1 ι1 F1 H1 S' Dd o := by
  cases o with
  | nx ρ' => exact KN.step st w k
  | bk ρ' => exact KN.step st w k
  | ct ρ' => exact KN.step st w k
  | rt r => exact KR.step st w k
theorem Stp.wk0 (st : Stp NoO ι F H ι1 F1 H1) : Stp (OwnA σ ρ) ι F H ι1 F1 H1 := st.weak fun _ q => q.elim
theorem KN.st0 (st : Stp NoO ι F H ι1 F1 H1) (k : KN X σ ρ ι F H S' ρ' P) : KN X σ ρ ι1 F1 H1 S' ρ' P := KN.step (σ1 := σ) (ρ1 := ρ) st.wk0 (fun _ q => .inl q) k
theorem Ko.st0 {o : Out} (st : Stp NoO ι F H ι1 F1 H1) (k : Ko X σ ρ ι F H S' Dd o) : Ko X σ ρ ι1 F1 H1 S' Dd o := Ko.step (σ1 := σ) (ρ1 := ρ) st.wk0 (fun _ q => .inl q) k
def SndS (C : Orc) (W : Nat) (X : Cx) (st : Stmt) (s : Sm) : Prop := ∀ ρ S o S', evS C W ρ s S = some (o, S') → ∀ σ ι F H D, Good X.K ι F H S → Slots X.K ι F H σ ρ → Ko X σ ρ ι F H S' D o → WS X st D σ H
def SndSs (C : Orc) (W : Nat) (X : Cx) (st : List Stmt) (s : Sms) : Prop := ∀ ρ S o S', evSs C W ρ s S = some (o, S') → ∀ σ ι F H D, Good X.K ι F H S → Slots X.K ι F H σ ρ → Ko X σ ρ ι F H S' D o → WSs X st D σ H
theorem sndSs_nil : SndSs C W X [] .nil := fun ρ S o S' h σ ι F H D g sl k => by
  simp only [evSs, Option.some.injEq, Prod.mk.injEq] at h
  obtain ⟨rfl, rfl⟩ := h
  exact ⟨_, pss_nil, k σ ι F H .refl g sl fun _ q => .inl q⟩
theorem sndSs_cons {st : Stmt} {sts : List Stmt} {s : Sm} {ss : Sms} (h1 : SndS C W X st s) (h2 : SndSs C W X sts ss) : SndSs C W X (st :: sts) (.cons s ss) := by
  intro ρ S o S' h σ ι F H D g sl k
  simp only [evSs] at h
  obtain ⟨o1, S1, e1, h⟩ := at_some h
  refine ⟨_, pss_cons WS.ps WSs.pss, ?_⟩
  refine h1 ρ S o1 S1 e1 σ ι F H _ g sl ?_
  cases o1 with
  | nx ρ' => exact fun σ' ι' F' H' st' g' sl' w => h2 ρ' S1 o S' h σ' ι' F' H' D g' sl' (k.step st' w)
  | bk ρ' => cases h; exact k
  | ct ρ' => cases h; exact k
  | rt r => cases h; exact k
theorem frz_one {i : Nat} (g : Good X.K ι F H S) (sl : Slots X.K ι F H σ ρ) {d : D} (h : ρ[i]? = some (some (.new d))) :
    ∃ F', Stp (OwnA σ ρ) ι F H ι F' H ∧ Good X.K ι F' H S ∧ Slots X.K ι F' H σ (ρ.set i (some (.val d))) ∧ ∀ a, OwnA σ (ρ.set i (some (.val d))) a → OwnA σ ρ a := by
  obtain ⟨a, e, f, n, o⟩ := sl.own i d h
  cases d with
  | lst ds =>
    obtain ⟨xs, hx, rl⟩ := o
    have g2 : Good X.K ι (upd F a (.lst xs)) H S := g.freeze hx n f
    have hO : OwnA σ ρ a := ⟨i, _, h, e⟩
    have keepOwn : ∀ b, OwnA σ (ρ.set i (some (.val (.lst ds)))) b → OwnA σ ρ b ∧ b ≠ a := fun b ⟨j, d', h1, h2⟩ => by
      rcases get_set h1 with ⟨rfl, q⟩ | ⟨n1, h1'⟩
      · injection q with q1; cases q1
      · exact ⟨⟨j, d', h1', h2⟩, fun q => n1 (sl.inj j i a d' _ h1' h (by rw [← q]; exact h2) e)⟩
    refine ⟨upd F a (.lst xs), stp_freeze f (.inr hO), g2, ⟨by simp [sl.len], fun j d' hj => ?_, fun j d' hj => ?_, fun j k b d1 d2 h1 h2 h3 h4 => ?_⟩, fun b hb => (keepOwn b hb).1⟩
    · rcases get_set hj with ⟨rfl, q⟩ | ⟨n1, hj'⟩
      · injection q with q1
        injection q1 with q2
        subst q2
        exact ⟨.ref a, e, .lst upd_same (rl.up .refl (sub_upd f))⟩
      · obtain ⟨v, e1, e2⟩ := sl.val j d' hj'
        exact ⟨v, e1, e2.up .refl (sub_upd f)⟩
    · rcases get_set hj with ⟨rfl, q⟩ | ⟨n1, hj'⟩
      · injection q with q1; cases q1
      · obtain ⟨b, e1, f1, n2, o2⟩ := sl.own j d' hj'
        have hne : b ≠ a := (keepOwn b ⟨j, d', hj, e1⟩).2
        exact ⟨b, e1, by rw [upd_ne hne]; exact f1, n2, o2.up .refl (sub_upd f) rfl⟩
    · rcases get_set h1 with ⟨rfl, q⟩ | ⟨n1, h1'⟩
      · injection q with q1; cases q1
      · rcases get_set h2 with ⟨rfl, q⟩ | ⟨n2, h2'⟩
        · injection q with q1; cases q1
        · exact sl.inj j k b d1 d2 h1' h2' h3 h4
  | _ => exact o.elim
theorem sndSs_frz {sts : List Stmt} {ss : Sms} (h2 : SndSs C W X sts ss) : ∀ is : List Nat, SndSs C W X sts (frzPre is ss)
  | [] => h2
  | i :: is => by
    intro ρ S o S' h σ ι F H D g sl k
    simp only [frzPre, evSs, evS] at h
    split at h
    · rename_i d e
      simp only [andThen_some] at h
      obtain ⟨F', st, g', sl', w⟩ := frz_one g sl e
      exact sndSs_frz h2 is _ S o S' h σ ι F' H D g' sl' (k.step st fun a q => .inl (w a q))
    · simp only [andThen_some] at h
      exact sndSs_frz h2 is ρ S o S' h σ ι F H D g sl k
theorem snd_pas {p : Pos} : SndS C W X (.Pass p) .pas := fun ρ S o S' h σ ι F H D g sl k => by
  simp only [evS, Option.some.injEq, Prod.mk.injEq] at h
  obtain ⟨rfl, rfl⟩ := h
  exact ⟨_, ps_pass, k σ ι F H .refl g sl fun _ q => .inl q⟩
theorem snd_brk {p : Pos} : SndS C W X (.Break p) .brk := fun ρ S o S' h σ ι F H D g sl k => by
  simp only [evS, Option.some.injEq, Prod.mk.injEq] at h
  obtain ⟨rfl, rfl⟩ := h
  exact ⟨_, ps_break, k σ ι F H .refl g sl fun _ q => .inl q⟩
theorem snd_cnt {p : Pos} : SndS C W X (.Continue p) .cnt := fun ρ S o S' h σ ι F H D g sl k => by
  simp only [evS, Option.some.injEq, Prod.mk.injEq] at h
  obtain ⟨rfl, rfl⟩ := h
  exact ⟨_, ps_continue, k σ ι F H .refl g sl fun _ q => .inl q⟩
theorem snd_retN {p : Pos} : SndS C W X (.Return none p) .retN := fun ρ S o S' h σ ι F H D g sl k => by
  simp only [evS, Option.some.injEq, Prod.mk.injEq] at h
  obtain ⟨rfl, rfl⟩ := h
  exact ⟨_, ps_retN, k .non ι F H .refl g .non⟩
theorem snd_ret {e : Expr} {x : Ex} {p : Pos} (he : SndE C X e x) : SndS C W X (.Return (some e) p) (.ret x) := fun ρ S o S' h σ ι F H D g sl k => by
  simp only [evS] at h
  obtain ⟨r1, S1, h1, h⟩ := at_some h
  cases h
  refine ⟨_, ps_ret WE.pe, ?_⟩
  refine he ρ S r1 S' h1 σ ι F H _ g sl fun v ι' F' H' st g' q => k v ι' F' H' st.wk0 g' ?_
  cases r1 with
  | val d => exact q
  | new d => obtain ⟨a, e1, n, r⟩ := q; exact ⟨a, e1, .inr n, r⟩
  | brw d => obtain ⟨a, e1, n, r⟩ := q; exact ⟨a, e1, .inl n, r⟩
theorem noswap {e : Expr} {t : Option Expr} {l : Nat} {env : PySem.Env} (h : compB e = false) : swapsWith e t l env = pure false := by
  cases e <;> first | (simp [compB] at h; done) | rfl
theorem snd_ex {e : Expr} {x : Ex} {p : Pos} (he : SndE C X e x) (hc : compB e = false) : SndS C W X (.Expr e p) (.ex x) := fun ρ S o S' h σ ι F H D g sl k => by
  simp only [evS] at h
  obtain ⟨r1, S1, h1, h⟩ := at_some h
  cases h
  refine ⟨_, ps_expr WE.pe (noswap hc), ?_⟩
  exact he ρ S r1 S' h1 σ ι F H _ g sl fun v ι' F' H' st g' q => k σ ι' F' H' st.wk0 g' (sl.step st) fun _ q => .inl q
theorem own_set {i : Nat} {a : Addr} {d : D} {b : Addr} (h : OwnA (σ.set i (some (.ref a))) (ρ.set i (some (.new d))) b) : OwnA σ ρ b ∨ b = a := by
  obtain ⟨j, d', h1, h2⟩ := h
  rcases get_set h1 with ⟨rfl, e⟩ | ⟨n, h1'⟩
  · rcases get_set h2 with ⟨_, e2⟩ | ⟨n2, _⟩
    · injection e2 with e3; injection e3 with e4; exact .inr e4
    · exact (n2 rfl).elim
  · rw [List.getElem?_set_ne fun q => n q.symm] at h2
    exact .inl ⟨j, d', h1', h2⟩
theorem asg_ok {T : Tb} {t : Expr} {g : Tg} {r : R} {v : V} (c : Ctx C lev T X) (hg : trG T t = some g) (hs : tgSet g r ρ = some ρ') (gd : Good X.K ι1 F1 H1 S') (sl : Slots X.K ι F H σ ρ) (st : Stp NoO ι F H ι1 F1 H1) (q : ResOk X.K (OwnA σ ρ) H ι1 F1 H1 v r)
    (k : KN X σ ρ ι F H S' ρ' P) : WG X t v σ H1 P := by
  cases r with
  | val d => exact tg_val c hg hs gd.sub (sl.step st) q fun σ' sl' _ w => k σ' ι1 F1 H1 st.wk0 gd sl' fun a o => .inl (w a o)
  | new d =>
    cases g with
    | tup is => simp [tgSet] at hs
    | nm i =>
      simp only [tgSet, Option.some.injEq] at hs
      subst hs
      obtain ⟨a, rfl, n, f, m, o⟩ := q
      have ht : trNm T t = some i := by
        cases t <;> first | (simp only [trG, Option.map_eq_some_iff] at hg; obtain ⟨j, h1, h2⟩ := hg; cases h2; exact h1) | (simp only [trG, Option.map_eq_some_iff] at hg; obtain ⟨j, h1, h2⟩ := hg; cases h2)
      have sl1 := sl.step st
      refine ⟨_, (nm_pg c ht).1, k _ ι1 F1 H1 st.wk0 gd (sl1.setNew f m o fun b hb e => ?_) fun b hb => ?_⟩
      · obtain ⟨_, _, u, hu⟩ := sl.ownA hb
        rw [e, n] at hu; cases hu
      · rcases own_set hb with h | rfl
        · exact .inl h
        · exact .inr n
  | brw d => cases g <;> simp [tgSet] at hs
theorem nm_noswap {t e : Expr} {l : Nat} {env : PySem.Env} (h : compB e = false) : swapsWithSole [t] e l env = pure false := noswap h
theorem nm_nostore {t e : Expr} {env : PySem.Env} (h : (tupB t && tupB e) = false) (h2 : ∀ es p, t ≠ .List es p) : swappedStores [t] e env = pure none := by
  unfold swappedStores
  cases t <;> first | rfl | skip
  · rename_i es p; exact (h2 es p rfl).elim
  · cases e <;> first | rfl | (simp [tupB] at h)
theorem trG_form {T : Tb} {t : Expr} {g : Tg} (h : trG T t = some g) {env : PySem.Env} : (∀ es p, t ≠ .List es p) ∧ (assignEach [t] env).map (·.2) = [assign t env] := by
  cases t <;> first | (simp [trG, trNm] at h; done) | exact ⟨(by intro _ _ e; cases e), rfl⟩ | exact ⟨(by intro _ _ e; cases e), by simp only [assignEach, List.map]⟩
theorem snd_asg {T : Tb} {t e : Expr} {x : Ex} {g : Tg} {p : Pos} (c : Ctx C lev T X) (he : SndE C X e x) (hg : trG T t = some g) (hc : compB e = false) (ht : (tupB t && tupB e) = false) : SndS C W X (.Assign [t] e p) (.asg g x) := fun ρ S o S' h σ ι F H D gd sl k => by
  simp only [evS] at h
  obtain ⟨r1, S1, h1, h⟩ := at_some h
  obtain ⟨h2, rfl⟩ := ws_some h
  simp only [Option.map_eq_some_iff] at h2
  obtain ⟨ρ', h2, rfl⟩ := h2
  obtain ⟨f1, f2⟩ := trG_form hg (env := X.env)
  refine ⟨_, ps_asg WE.pe WG.pg (nm_noswap hc) (nm_nostore ht f1) f2, ?_⟩
  exact he ρ S r1 S1 h1 σ ι F H _ gd sl fun v ι1 F1 H1 st g1 q => asg_ok c hg h2 g1 sl st q k
theorem snd_asgLc {T : Tb} {y : Str} {py : Pos} {elt tg iter : Expr} {ifs : List Expr} {sc : Scope} {pos p : Pos} {x : Ex} {i : Nat} (c : Ctx C lev T X) (L : LcE C X elt tg iter ifs sc x) (hi : trNm T (.Name y py) = some i) (hl : T.nm.lookup y = some .local) :
    SndS C W X (.Assign [.Name y py] (.ListComp elt [⟨tg, iter, ifs, 0⟩] sc pos) p) (.asg (.nm i) x) := fun ρ S o S' h σ ι F H D gd sl k => by
  simp only [evS] at h
  obtain ⟨r1, S1, h1, h⟩ := at_some h
  obtain ⟨h2, rfl⟩ := ws_some h
  simp only [Option.map_eq_some_iff] at h2
  obtain ⟨ρ', h2, rfl⟩ := h2
  have hg : trG T (.Name y py) = some (.nm i) := by simp only [trG, hi]; rfl
  have hN : X.N[i]? = some y := by
    simp only [trNm] at hi
    split at hi
    · rw [c.N]; exact slotOf_get hi
    · cases hi
  have hyl : X.env.scope.names.lookup y = some .local := by rw [c.nm]; exact hl
  have nd : X.N.Nodup := by rw [c.N]; exact c.nd
  have fin : ∀ v ι1 F1 H1, Stp NoO ι F H ι1 F1 H1 → Good X.K ι1 F1 H1 S1 → ResOk X.K (OwnA σ ρ) H ι1 F1 H1 v r1 → gName i v σ H1 D.nx := fun v ι1 F1 H1 st g1 q => by
    cases r1 with
    | val d =>
      simp only [tgSet, Option.some.injEq] at h2
      subst h2
      exact k _ ι1 F1 H1 st.wk0 g1 ((sl.step st).setVal q) fun a o => .inl o.unset
    | new d =>
      simp only [tgSet, Option.some.injEq] at h2
      subst h2
      obtain ⟨a, rfl, n, f, m, o⟩ := q
      refine k _ ι1 F1 H1 st.wk0 g1 ((sl.step st).setNew f m o fun b hb e => ?_) fun b hb => ?_
      · obtain ⟨_, _, u, hu⟩ := sl.ownA hb
        rw [e, n] at hu; cases hu
      · rcases own_set hb with h | rfl
        · exact .inl h
        · exact .inr n
    | brw d => simp [tgSet] at h2
  by_cases hsw : ((py.line == pos.line) && !(sc.names.any fun (n, k) => n == y && (k == .local || k == .cell))) = true
  · simp only [Bool.and_eq_true, Bool.not_eq_true'] at hsw
    obtain ⟨tt, p1, p2⟩ := L.ex
    refine ⟨_, ps_setLc c.calm nd hN hyl (sw_true c.kind hyl hsw.1 hsw.2) WI.pi L.own tg_pg p1 te_pe (fun x => noset L.set), ?_⟩
    exact p2 ρ S r1 S1 h1 σ ι F H _ gd sl fin
  · refine ⟨_, ps_asg WE.pe (nm_pg c hi).1 ?_ rfl rfl, ?_⟩
    · have ky : X.env.kindOf y = some .local := hyl
      have hb : X.env.blockKind = .function := by unfold Env.blockKind; rw [c.kind]; rfl
      have hsw' := (Bool.not_eq_true _).mp hsw
      have q : swapsWith (.ListComp elt [⟨tg, iter, ifs, 0⟩] sc pos) (some (.Name y py)) p.line X.env = pure false := by
        unfold swapsWith
        simp only [hb, ky, Expr.pos]
        show (pure _ : Sem Bool) = pure false
        congr 1
      exact q
    · exact (LcE.snd c L) ρ S r1 S1 h1 σ ι F H _ gd sl fin
theorem snd_new {T : Tb} {t e : Expr} {x : Ex} {i : Nat} {p : Pos} (c : Ctx C lev T X) (he : SndE C X e x) (hi : trNm T t = some i) (hc : compB e = false) : SndS C W X (.Assign [t] e p) (.new i x) := fun ρ S o S' h σ ι F H D gd sl k => by
  simp only [evS] at h
  obtain ⟨r1, S1, h1, h⟩ := at_some h
  cases r1 with
  | val d => cases h
  | brw d => cases h
  | new d =>
    cases h
    have nt : tupB t = false := by cases t <;> first | rfl | simp [trNm] at hi
    have hg : trG T t = some (.nm i) := by cases t <;> simp [trNm] at hi <;> simp only [trG, trNm] <;> simp [hi]
    obtain ⟨f1, f2⟩ := trG_form hg (env := X.env)
    refine ⟨_, ps_asg WE.pe (nm_pg c hi).1 (nm_noswap hc) (nm_nostore (by rw [nt]; rfl) f1) f2, ?_⟩
    refine he ρ S _ S1 h1 σ ι F H _ gd sl fun v ι1 F1 H1 st g1 q => ?_
    obtain ⟨a, rfl, n, f, m, ow⟩ := q
    have pre : Pre ι1 (ι1 ++ [a]) := ⟨[a], rfl⟩
    have st2 : Stp (OwnA σ ρ) ι F H (ι1 ++ [a]) F1 H1 := ⟨st.pre.trans pre, st.mono, fun b u h1 h2 => (st.newF b u h1 h2).imp id fun z => z.elim, fun b h1 h2 => (by
      rcases List.mem_append.mp h1 with q | q
      · exact (st.newC b q h2).imp id fun z => z.elim
      · simp at q; subst q; exact .inl n), fun b u h1 h2 h3 => st.keep b u h1 h2 fun z => z, st.live⟩
    have sl1 := sl.step st
    have hnm : ∀ b, OwnA σ ρ b → b ≠ a := fun b hb e => by
      obtain ⟨_, _, u, hu⟩ := sl.ownA hb
      rw [e, n] at hu; cases hu
    have sl2 : Slots X.K (ι1 ++ [a]) F1 H1 σ ρ := ⟨sl1.len, fun j d' h => (by obtain ⟨w, e1, e2⟩ := sl1.val j d' h; exact ⟨w, e1, e2.up pre .refl⟩), fun j d' h => (by
      obtain ⟨b, e1, e2, e3, e4⟩ := sl1.own j d' h
      refine ⟨b, e1, e2, fun q => ?_, e4.up pre .refl rfl⟩
      rcases List.mem_append.mp q with q | q
      · exact e3 q
      · simp at q; exact hnm b ⟨j, d', h, e1⟩ q), sl1.inj⟩
    have hlen := g1.len
    have g2 : Good X.K (ι1 ++ [a]) F1 H1 (S1 ++ [d]) := ⟨g1.sub, by simp [hlen], fun j b d' h1 h2 => (by
      by_cases hj : j < ι1.length
      · rw [List.getElem?_append_left hj] at h1
        rw [List.getElem?_append_left (by rw [← hlen]; exact hj)] at h2
        obtain ⟨u1, u2⟩ := g1.cells j b d' h1 h2
        exact ⟨u1, u2.up pre .refl rfl⟩
      · have hj2 : j = ι1.length := by
          have := lt_get h1
          simp at this; omega
        subst hj2
        simp at h1
        rw [hlen] at h2
        simp at h2
        subst h1
        subst h2
        exact ⟨f, ow.up pre .refl rfl⟩), by
        rw [List.nodup_append]
        exact ⟨g1.nod, by simp, fun b hb c' hc' e => by simp at hc'; subst hc'; subst e; exact m hb⟩⟩
    exact k _ (ι1 ++ [a]) F1 H1 st2 g2 (sl2.setVal (.ref (by rw [← hlen]; simp))) fun b o => .inl o.unset
end
end Ds
namespace Ds
open PySem PySem.Spec PyProof.Rows L2
variable {X : Cx} {C : Orc} {lev W : Nat} {σ σ1 : L2.St} {ρ ρ1 ρ' : Env} {ι ι1 : List Addr} {F F1 H H1 : Hp} {S S' : Sto} {P : L2.St → Hp → Prop} {T : Tb}
theorem nd_inj {l : List Nat} (h : l.Nodup) {i j a : Nat} (hi : l[i]? = some a) (hj : l[j]? = some a) : i = j := by
  obtain ⟨h1, e1⟩ := List.getElem?_eq_some_iff.mp hi
  obtain ⟨h2, e2⟩ := List.getElem?_eq_some_iff.mp hj
  have pw := List.pairwise_iff_getElem.mp h
  rcases Nat.lt_trichotomy i j with q | q | q
  · exact (pw i j h1 h2 q (by rw [e1, e2])).elim
  · exact q
  · exact (pw j i h2 h1 q (by rw [e1, e2])).elim
theorem muOf_n {m : Str} {u : Mu} (h : muOf m = some u) : m = (muS u : Str) ∧ u ≠ .set := by
  unfold muOf at h
  repeat' split at h
  all_goals first | (cases h; exact ⟨by assumption, by decide⟩) | cases h
def MuA (K : PySem.W.Frag) (ι : List Addr) (F H : Hp) (m : Mu) (vs : List V) (ds : List D) : Prop := match m with
  | .extend => RepL K ι F vs ds ∨ ∃ v d, vs = [v] ∧ ds = [d] ∧ View K ι F H v d
  | _ => RepL K ι F vs ds
theorem mu_ok {m : Mu} {l : Addr} {d d' r : D} {vs : List V} {ds : List D} {Q : VK} (hm : m ≠ .set) (s : Sub F H) (o : OwnO X.K ι F H l d) (a : MuA X.K ι F H m vs ds) (h : muD m d ds = some (d', r))
    (k : ∀ v u, OwnO X.K ι F (upd H l u) l d' → Rep X.K ι F v r → Q v (upd H l u)) : WMt X (muI m) (.ref l) vs H Q := by
  cases d with
  | lst xs =>
    obtain ⟨ws, hw, rl⟩ := o
    cases m with
    | append =>
      match ds, h with
      | [y], h =>
        simp only [muD] at h
        split at h
        · rename_i hc
          cases h
          cases a with
          | cons r1 r2 =>
            cases r2
            exact ⟨_, mt_append, l, ws, _, rfl, rfl, hw, by rw [rl.length]; exact hc, k _ _ ⟨_, upd_same, rl.append (.cons r1 .nil)⟩ .non⟩
        · cases h
      | [], h => simp [muD] at h
      | _ :: _ :: _, h => simp [muD] at h
    | extend =>
      have a' : (∃ v d, vs = [v] ∧ ds = [d] ∧ View X.K ι F H v d) := by
        rcases a with a | a
        · cases a with
          | nil => simp [muD] at h
          | cons r1 r2 =>
            cases r2 with
            | nil =>
              rename_i v d
              refine ⟨v, d, rfl, rfl, .inl ⟨r1, fun n e => ?_⟩⟩
              subst e
              simp [muD] at h
            | cons _ _ => simp [muD] at h
        · exact a
      obtain ⟨v, d, rfl, rfl, w⟩ := a'
      cases d with
      | lst ys =>
        simp only [muD] at h
        split at h
        · rename_i hc
          cases h
          obtain ⟨b, zs, rfl, hb, rz⟩ := w.lst s
          exact ⟨_, mt_extend, l, b, ws, zs, rfl, rfl, hw, hb, by rw [rl.length, rz.length]; exact hc, k _ _ ⟨_, upd_same, rl.append rz⟩ .non⟩
        · cases h
      | _ => simp [muD] at h
    | pop =>
      match ds, h with
      | [], h =>
        simp only [muD, Option.map_eq_some_iff] at h
        obtain ⟨y, h1, h2⟩ := h
        cases h2
        cases a
        obtain ⟨v, e1, e2⟩ := rl.get h1
        refine ⟨_, mt_pop, l, ws, v, rfl, rfl, hw, by rw [rl.length]; exact e1, k _ _ ⟨_, upd_same, ?_⟩ e2⟩
        rw [List.dropLast_eq_take, List.dropLast_eq_take, rl.length]
        exact rl.take _
      | _ :: _, h => simp [muD] at h
    | clear =>
      match ds, h with
      | [], h =>
        simp only [muD, Option.some.injEq, Prod.mk.injEq] at h
        obtain ⟨rfl, rfl⟩ := h
        cases a
        exact ⟨_, mt_clear, l, ws, rfl, rfl, hw, k _ _ ⟨_, upd_same, .nil⟩ .non⟩
      | _ :: _, h => simp [muD] at h
    | reverse =>
      match ds, h with
      | [], h =>
        simp only [muD, Option.some.injEq, Prod.mk.injEq] at h
        obtain ⟨rfl, rfl⟩ := h
        cases a
        exact ⟨_, mt_reverse, l, ws, rfl, rfl, hw, k _ _ ⟨_, upd_same, rl.reverse⟩ .non⟩
      | _ :: _, h => simp [muD] at h
    | set => exact (hm rfl).elim
  | _ => exact o.elim
theorem set_ok {l : Addr} {d d' r dk dy : D} {vk vy : V} {Q : Hp → Prop} (o : OwnO X.K ι F H l d) (rk : Rep X.K ι F vk dk) (ry : Rep X.K ι F vy dy) (h : muD .set d [dk, dy] = some (d', r))
    (k : ∀ u, OwnO X.K ι F (upd H l u) l d' → Q (upd H l u)) : rSetL (.ref l) vk vy H Q := by
  cases d with
  | lst xs =>
    obtain ⟨ws, hw, rl⟩ := o
    cases dk with
    | int i =>
      simp only [muD, Option.map_eq_some_iff] at h
      obtain ⟨j, h1, h2⟩ := h
      cases h2
      cases rk
      exact ⟨l, ws, i, j, rfl, rfl, hw, by rw [rl.length]; exact h1, k _ ⟨_, upd_same, rl.set ry j⟩⟩
    | _ => simp [muD] at h
  | _ => exact o.elim
def PlOk (K : PySem.W.Frag) (σ : L2.St) (ρ : Env) (ι : List Addr) (l : Addr) : Pl → Prop
  | .slot i => σ[i]? = some (some (.ref l)) ∧ ∃ d, ρ[i]? = some (some (.new d))
  | .cell n => ι[n]? = some l
theorem pl_own {l : Addr} {p : Pl} {d : D} (g : Good X.K ι F H S) (sl : Slots X.K ι F H σ ρ) (h : PlOk X.K σ ρ ι l p) (e : plGet ρ S p = some d) : OwnO X.K ι F H l d := by
  cases p with
  | slot i =>
    obtain ⟨h1, _⟩ := h
    simp only [plGet] at e
    split at e
    · rename_i d0 e0
      cases e
      obtain ⟨a, e1, _, _, o⟩ := sl.own i d e0
      rw [h1] at e1
      cases e1
      exact o
    · cases e
  | cell n => exact (g.cells n l d h e).2
theorem pl_set {l : Addr} {p : Pl} {d d' : D} {u : HO} (g : Good X.K ι F H S) (sl : Slots X.K ι F H σ ρ) (h : PlOk X.K σ ρ ι l p) (e : plGet ρ S p = some d) (o : OwnO X.K ι F (upd H l u) l d') :
    Stp (OwnA σ ρ) ι F H ι F (upd H l u) ∧ Good X.K ι F (upd H l u) (plSet ρ S p d').2 ∧ Slots X.K ι F (upd H l u) σ (plSet ρ S p d').1 ∧ ∀ a, OwnA σ (plSet ρ S p d').1 a → OwnA σ ρ a := by
  cases p with
  | slot i =>
    obtain ⟨h1, d0, h2⟩ := h
    have hO : OwnA σ ρ l := ⟨i, d0, h2, h1⟩
    obtain ⟨f, n, v, hv⟩ := sl.ownA hO
    have back : ∀ a, OwnA σ (ρ.set i (some (.new d'))) a → OwnA σ ρ a := fun a ⟨j, d1, e1, e2⟩ => by
      rcases get_set e1 with ⟨rfl, q⟩ | ⟨n1, e1'⟩
      · exact ⟨j, d0, h2, e2⟩
      · exact ⟨j, d1, e1', e2⟩
    refine ⟨stp_set.weak fun a q => q ▸ hO, g.set f n, ⟨by simp [plSet, sl.len], fun j d1 hj => ?_, fun j d1 hj => ?_, fun j k b d1 d2 e1 e2 e3 e4 => ?_⟩, back⟩
    · rcases get_set hj with ⟨rfl, q⟩ | ⟨n1, hj'⟩
      · injection q with q1; cases q1
      · exact sl.val j d1 hj'
    · rcases get_set hj with ⟨rfl, q⟩ | ⟨n1, hj'⟩
      · injection q with q1
        injection q1 with q2
        subst q2
        exact ⟨l, h1, f, n, o⟩
      · obtain ⟨b, e1, e2, e3, e4⟩ := sl.own j d1 hj'
        have hne : b ≠ l := fun q => n1 (sl.inj j i b d1 d0 hj' h2 e1 (by rw [q]; exact h1))
        exact ⟨b, e1, e2, e3, e4.up .refl .refl (upd_ne hne)⟩
    · have q : ∀ {j : Nat} {d1 : D}, (ρ.set i (some (R.new d')))[j]? = some (some (R.new d1)) → ∃ d3, ρ[j]? = some (some (R.new d3)) := fun {j d1} q => by
        rcases get_set q with ⟨rfl, _⟩ | ⟨_, q'⟩
        · exact ⟨d0, h2⟩
        · exact ⟨d1, q'⟩
      obtain ⟨d3, q3⟩ := q e1
      obtain ⟨d4, q4⟩ := q e2
      exact sl.inj j k b d3 d4 q3 q4 e3 e4
  | cell n =>
    have h : ι[n]? = some l := h
    have e : S[n]? = some d := e
    have hi : l ∈ ι := List.mem_of_getElem? h
    obtain ⟨f, _⟩ := g.cells n l d h e
    have inj : ∀ j, ι[j]? = some l → j = n := fun j hj => nd_inj g.nod hj h
    refine ⟨⟨.refl, .refl, fun a w h n => (by rw [n] at h; cases h), fun _ h n => (n h).elim, fun a w h1 h2 _ => (by rw [upd_ne fun q => h2 (by rw [q]; exact hi)]; exact h1), fun a w h1 => (by
        by_cases q : a = l
        · subst q; exact ⟨u, upd_same⟩
        · exact ⟨w, by rw [upd_ne q]; exact h1⟩)⟩, ⟨fun a w h1 => (by rw [upd_ne (ne_of_none h1 f)]; exact g.sub a w h1), by simp [plSet, g.len], fun j b d1 h1 h2 => ?_, g.nod⟩, ⟨sl.len, sl.val, fun j d1 hj => ?_, sl.inj⟩, fun a q => q⟩
    · by_cases q : b = l
      · subst q
        obtain rfl := inj j h1
        simp only [plSet] at h2
        rw [set_get (lt_get e)] at h2
        cases h2
        exact ⟨f, o⟩
      · have hjn : j ≠ n := fun z => q (by subst z; rw [h] at h1; cases h1; rfl)
        simp only [plSet] at h2
        rw [List.getElem?_set_ne fun z => hjn z.symm] at h2
        obtain ⟨f1, o1⟩ := g.cells j b d1 h1 h2
        exact ⟨f1, o1.up .refl .refl (upd_ne q)⟩
    · obtain ⟨b, e1, e2, e3, e4⟩ := sl.own j d1 hj
      exact ⟨b, e1, e2, e3, e4.up .refl .refl (upd_ne fun q => e3 (by rw [q]; exact hi))⟩
theorem pl_of {x : Ex} {r : R} {p : Pl} {v : V} {H0 : Hp} (h : plOf ρ x r = some p) (he : evE C ρ x S = some (r, S')) (sl : Slots X.K ι F H σ ρ) (q : ResOk X.K (OwnA σ ρ) H0 ι1 F1 H1 v r) (hv : ∀ i, x = .nm i → ∀ d, ρ[i]? = some (some (.new d)) → σ[i]? = some (some v)) :
    ∃ l, v = .ref l ∧ PlOk X.K σ ρ ι1 l p := by
  unfold plOf at h
  split at h
  · rename_i i d
    cases h
    obtain ⟨a, rfl, _⟩ := q
    simp only [evE] at he
    split at he
    · cases he
    · rename_i d' e
      cases he
      exact ⟨a, rfl, hv i rfl _ e, _, e⟩
    · cases he
  · cases h
    cases q with
    | ref e => exact ⟨_, rfl, e⟩
  · cases h
def SndP (C : Orc) (X : Cx) (e : Expr) (x : Ex) : Prop := ∀ ρ S r S', evE C ρ x S = some (r, S') → ∀ σ ι F H Q, Good X.K ι F H S → Slots X.K ι F H σ ρ →
  (∀ v ι' F' H', Stp NoO ι F H ι' F' H' → Good X.K ι' F' H' S' → ResOk X.K (OwnA σ ρ) H ι' F' H' v r → (∀ i, x = .nm i → ∀ d, ρ[i]? = some (some (.new d)) → σ[i]? = some (some v)) → Q v H') → WE X e σ H Q
theorem sndP_of {n : Nat} {e : Expr} {x : Ex} (c : Ctx C lev T X) (h : trE T n e = some x) (ho : objB e = true) : SndP C X e x := by
  intro ρ S r S' he σ ι F H Q g sl k
  have hs := ((all (C := C) (lev := lev) n).e c h).1
  by_cases hx : ∃ i d, x = .nm i ∧ ρ[i]? = some (some (.new d))
  · obtain ⟨i, d, rfl, hd⟩ := hx
    cases e with
    | Name y p =>
      cases n with
      | zero => simp [trE] at h
      | succ n =>
        simp only [trE] at h
        split at h
        · cases h
        rename_i hdb
        split at h
        · rename_i hv
          simp only [Option.map_eq_some_iff] at h
          obtain ⟨j, h1, h2⟩ := h
          cases h2
          have hN : X.N[i]? = some y := by rw [c.N]; exact slotOf_get h1
          simp only [evE, hd, Option.some.injEq, Prod.mk.injEq] at he
          obtain ⟨rfl, rfl⟩ := he
          obtain ⟨a, e1, f, m, o⟩ := sl.own i d hd
          have hdb' := (Bool.not_eq_true _).mp hdb
          exact ⟨_, pe_var hN (vis_of c.nm hv) (dbg1 hdb').1 (dbg1 hdb').2.1, .ref a, e1, k _ ι F H .refl g ⟨a, rfl, ⟨i, d, hd, e1⟩, f, m, o⟩ fun j e2 d2 _ => by cases e2; exact e1⟩
        · split at h
          · simp only [Option.map_eq_some_iff] at h
            obtain ⟨_, _, h2⟩ := h
            cases h2
          · cases h
    | Subscript a b p =>
      exfalso
      cases n with
      | zero => simp [trE] at h
      | succ n =>
        unfold trE at h
        split at h <;> try (simp at h; done)
        all_goals (first | (rename_i q; cases q) | skip)
        all_goals (repeat' split at h) <;> simp at h
    | _ => simp [objB] at ho
  · exact hs ρ S r S' he σ ι F H Q g sl fun v ι' F' H' st g' q => k v ι' F' H' st g' q fun i e1 d e2 => (hx ⟨i, d, e1, e2⟩).elim
theorem ty_own {l : Addr} {d : D} (o : OwnO X.K ι F H l d) : tyV X.K "list" (.ref l) H := by
  cases d with
  | lst xs => obtain ⟨ws, hw, _⟩ := o; exact .inl ⟨rfl, _, SqL.of hw⟩
  | _ => exact o.elim
theorem obj_base {o : Expr} {m : Str} {env : PySem.Env} {wh : Sem Value} (h : objB o = true) : attributeBase o m env wh = wh := by
  cases o <;> first | rfl | (simp [objB] at h)
theorem few_ok {e : Expr} {es : List Expr} {cp : Pos} {env : PySem.Env} (h : ∀ e' ∈ e :: es, starB e' = false) (hl : (e :: es).length < 20) :
    ((backTo cp (starEach (e :: es) env)).all (fun x => !x.1) && (backToKw cp (keywordEach [] env)).all (fun x => x.1.isSome) && decide ((e :: es).length + ([] : List Keyword).length + (if ([] : List Keyword).isEmpty then 0 else 1) < 30)) = true := by
  have h1 : (backTo cp (starEach (e :: es) env)).all (fun x => !x.1) = true := by
    have := nostars (pos := cp) (env := env) h
    rw [List.all_eq_true]
    intro y hy
    rw [List.any_eq_false] at this
    have q := this y hy
    simpa using q
  have h2 : (backToKw cp (keywordEach [] env)).all (fun x => x.1.isSome) = true := by rfl
  rw [h1, h2]
  simp at hl ⊢
  omega
theorem bm_facts {u : Mu} (hu : u ≠ .set) : PlainAttrs "list" ∧ Slot "list" (muS u : Str) (muI u) ∧ typeOf (.builtin (muI u)) = pure (.type "method_descriptor") := by
  cases u with
  | append => exact ⟨PySem.F.plainAttrs_list, PySem.F.slot_list_append, PySem.F.type_list_append⟩
  | extend => exact ⟨PySem.F.plainAttrs_list, PySem.F.slot_list_extend, PySem.F.type_list_extend⟩
  | pop => exact ⟨PySem.F.plainAttrs_list, PySem.F.slot_list_pop, PySem.F.type_list_pop⟩
  | clear => exact ⟨PySem.F.plainAttrs_list, PySem.F.slot_list_clear, PySem.F.type_list_clear⟩
  | reverse => exact ⟨PySem.F.plainAttrs_list, PySem.F.slot_list_reverse, PySem.F.type_list_reverse⟩
  | set => exact (hu rfl).elim
theorem bm_nil {u : Mu} (hu : u ≠ .set) {o : Expr} {ap cp : Pos} (ho : objB o = true) (hln : (ap.endLine == cp.line) = true) :
    PE X (.Call (.Attribute o (muS u : Str) ap) [] [] cp) (tBM0 X.K "list" (WMt X (muI u)) (WE X o)) := by
  obtain ⟨h1, h2, h3⟩ := bm_facts hu
  exact pe_bm0 h1 h2 h3 WMt.mr WE.pe (obj_base ho) hln
theorem bm_cons {u : Mu} (hu : u ≠ .set) {o e : Expr} {es : List Expr} {ap cp : Pos} (ho : objB o = true) (hln : (ap.endLine == cp.line) = true) (hst : ∀ e' ∈ e :: es, starB e' = false) (hl : (e :: es).length < 20) :
    PE X (.Call (.Attribute o (muS u : Str) ap) (e :: es) [] cp) (tBM X.K "list" (WMt X (muI u)) (WE X o) (WA X (e :: es))) := by
  obtain ⟨h1, h2, h3⟩ := bm_facts hu
  exact pe_bm h1 h2 h3 WMt.mr WE.pe WA.pa (obj_base ho) (few_ok hst hl) hln (star1 (hst e (by simp))) (nostars fun e' he => hst e' (by simp [he]))
theorem trA_nil {n : Nat} {es : List Expr} (h : trA T n es = some .nil) : es = [] := by
  cases n with
  | zero => simp [trA] at h
  | succ n =>
    cases es with
    | nil => rfl
    | cons e es =>
      simp only [trA] at h
      split at h
      · cases h
      · split at h <;> cases h
theorem sndM {n : Nat} {u : Mu} {es : List Expr} {xs : Exs} (c : Ctx C lev T X) (h : trA T n es = some xs) {ds : List D} (he : evM C ρ u xs S = some (ds, S')) (g : Good X.K ι F H S) (sl : Slots X.K ι F H σ ρ) {Q : List V → Hp → Prop}
    (k : ∀ vs ι' F' H', Stp NoO ι F H ι' F' H' → Good X.K ι' F' H' S' → MuA X.K ι' F' H' u vs ds → Q vs H') : (es = [] ∧ Q [] H) ∨ (∃ e es', es = e :: es' ∧ WA X es σ H Q) := by
  have kk : ∀ vs ι' F' H', Stp NoO ι F H ι' F' H' → Good X.K ι' F' H' S' → RepL X.K ι' F' vs ds → Q vs H' := fun vs ι' F' H' st g' r => k vs ι' F' H' st g' (by cases u <;> first | exact r | exact .inl r)
  cases xs with
  | nil =>
    obtain rfl := trA_nil h
    have he : evA C ρ .nil S = some (ds, S') := he
    simp only [evA, Option.some.injEq, Prod.mk.injEq] at he
    obtain ⟨rfl, rfl⟩ := he
    exact .inl ⟨rfl, kk [] ι F H .refl g .nil⟩
  | cons x xs =>
    cases es with
    | nil => cases n <;> simp [trA] at h
    | cons e es =>
      refine .inr ⟨e, es, rfl, ?_⟩
      have hst := trA_star h
      cases xs with
      | nil =>
        cases n with
        | zero => simp [trA] at h
        | succ n =>
          simp only [trA] at h
          split at h
          · cases h
          split at h
          · rename_i x1 xs1 h1 h2
            cases h
            obtain rfl := trA_nil h2
            have se := ((all (C := C) (lev := lev) n).e c h1).1
            simp only [evM] at he
            obtain ⟨r1, S1, e1, he⟩ := at_some he
            refine ⟨_, pa_cons WE.pe pa_nil (star1 (hst e (by simp))), ?_⟩
            split at he
            · cases he
              exact se ρ S r1 S' e1 σ ι F H _ g sl fun v ι' F' H' st g' q => k [v] ι' F' H' st g' (.inr ⟨v, _, rfl, rfl, q.view g'⟩)
            · rename_i hp _
              cases he
              exact se.rep e1 hp g sl fun v ι' F' H' st g' q => kk [v] ι' F' H' st g' (.cons q .nil)
            · cases he
          · cases h
      | cons x2 xs =>
        have he : evA C ρ (.cons x (.cons x2 xs)) S = some (ds, S') := by
          simp only [evM] at he
          exact he
        exact (all (C := C) (lev := lev) n).a c h ρ S ds S' he σ ι F H Q g sl kk
theorem sndMu {n : Nat} {u : Mu} {o : Expr} {es : List Expr} {x : Ex} {xs : Exs} {ap cp : Pos} {r : R} {S1 S2 : Sto} {p : Pl} {d d' q : D} {ds : List D} (c : Ctx C lev T X) (hu : u ≠ .set) (ho : objB o = true) (hln : (ap.endLine == cp.line) = true) (hl : es.length < 20)
    (h1 : trE T n o = some x) (h2 : trA T n es = some xs) (e1 : evE C ρ x S = some (r, S1)) (e2 : evM C ρ u xs S1 = some (ds, S2)) (e3 : plOf ρ x r = some p) (e4 : plGet ρ S2 p = some d) (e5 : muD u d ds = some (d', q))
    (g : Good X.K ι F H S) (sl : Slots X.K ι F H σ ρ) {Q : VK}
    (k : ∀ v ι' F' H', Stp (OwnA σ ρ) ι F H ι' F' H' → Good X.K ι' F' H' (plSet ρ S2 p d').2 → Slots X.K ι' F' H' σ (plSet ρ S2 p d').1 → (∀ a, OwnA σ (plSet ρ S2 p d').1 a → OwnA σ ρ a) → Rep X.K ι' F' v q → Q v H') :
    WE X (.Call (.Attribute o (muS u : Str) ap) es [] cp) σ H Q := by
  have body : ∀ (v : V) (ι1 : List Addr) (F1 H1 : Hp), Stp NoO ι F H ι1 F1 H1 → Good X.K ι1 F1 H1 S1 → ResOk X.K (OwnA σ ρ) H ι1 F1 H1 v r → (∀ i, x = .nm i → ∀ d, ρ[i]? = some (some (.new d)) → σ[i]? = some (some v)) →
      tyV X.K "list" v H1 ∧ ((es = [] ∧ WMt X (muI u) v [] H1 Q) ∨ (∃ e es', es = e :: es' ∧ WA X es σ H1 fun vs H2 => WMt X (muI u) v vs H2 Q)) := fun v ι1 F1 H1 st1 g1 q1 hv => by
    obtain ⟨l, rfl, hp⟩ := pl_of e3 e1 sl q1 hv
    refine ⟨?_, sndM (Q := fun vs H2 => WMt X (muI u) (V.ref l) vs H2 Q) c h2 e2 g1 (sl.step st1) fun vs ι2 F2 H2 st2 g2 ma => ?_⟩
    · -- it is a list there
      cases r with
      | brw dd => obtain ⟨a, e, _, _, _, o⟩ := q1; cases e; exact ty_own o
      | new dd => obtain ⟨a, e, _, _, _, o⟩ := q1; cases e; exact ty_own o
      | val dd =>
        cases p with
        | slot i => unfold plOf at e3; split at e3 <;> first | cases e3 | skip
                    all_goals (rename_i hh; cases hh)
        | cell m =>
          have hp : ι1[m]? = some l := hp
          have hm : m < S1.length := by rw [← g1.len]; exact lt_get hp
          exact ty_own (g1.cells m l _ hp (List.getElem?_eq_getElem hm)).2
    · have hp2 : PlOk X.K σ ρ ι2 l p := by
        cases p with
        | slot i => exact hp
        | cell m => exact st2.pre.get hp
      have sl2 := sl.step (st1.tr0 st2)
      have ow := pl_own g2 sl2 hp2 e4
      refine mu_ok hu g2.sub ow ma e5 fun v u2 o2 rv => ?_
      obtain ⟨s3, g3, sl3, w3⟩ := pl_set g2 sl2 hp2 e4 o2
      refine k v ι2 F2 _ ((st1.tr0 st2).wk0.trans s3 fun a q => .inl q) g3 sl3 w3 rv
  cases es with
  | nil =>
    refine ⟨_, bm_nil hu ho hln, ?_⟩
    refine sndP_of c h1 ho ρ S r S1 e1 σ ι F H _ g sl fun v ι1 F1 H1 st1 g1 q1 hv => ?_
    obtain ⟨b1, b2⟩ := body v ι1 F1 H1 st1 g1 q1 hv
    rcases b2 with ⟨_, b2⟩ | ⟨e, es', h, _⟩
    · exact ⟨b1, b2⟩
    · cases h
  | cons e es =>
    refine ⟨_, bm_cons hu ho hln (trA_star h2) hl, ?_⟩
    refine sndP_of c h1 ho ρ S r S1 e1 σ ι F H _ g sl fun v ι1 F1 H1 st1 g1 q1 hv => ?_
    obtain ⟨b1, b2⟩ := body v ι1 F1 H1 st1 g1 q1 hv
    rcases b2 with ⟨h, _⟩ | ⟨e', es', _, b2⟩
    · cases h
    · exact ⟨b1, b2⟩
end Ds
namespace Ds
open PySem PySem.Spec PyProof.Rows L2
variable {X : Cx} {C : Orc} {lev W : Nat} {σ σ1 : L2.St} {ρ ρ1 ρ' : Env} {ι ι1 : List Addr} {F F1 H H1 : Hp} {S S' : Sto} {P : L2.St → Hp → Prop} {T : Tb}
theorem trM_some {n : Nat} {e : Expr} {u : Mu} {x : Ex} {xs : Exs} (h : trM T n e = some (u, x, xs)) :
    ∃ o ap es cp, e = .Call (.Attribute o (muS u : Str) ap) es [] cp ∧ u ≠ .set ∧ objB o = true ∧ (ap.endLine == cp.line) = true ∧ es.length < 20 ∧ trE T n o = some x ∧ trA T n es = some xs := by
  unfold trM at h
  split at h
  · split at h
    · cases h
    · rename_i o m ap args cp _ mu hm
      split at h
      · rename_i hc
        simp only [Bool.and_eq_true, decide_eq_true_eq] at hc
        split at h
        · rename_i x1 xs1 h1 h2
          cases h
          obtain ⟨rfl, hu⟩ := muOf_n hm
          exact ⟨_, _, _, _, rfl, hu, hc.1.1, hc.1.2, hc.2, h1, h2⟩
        · cases h
      · cases h
  · cases h
theorem snd_mut {n : Nat} {e : Expr} {u : Mu} {x : Ex} {xs : Exs} {p : Pos} (c : Ctx C lev T X) (h : trM T n e = some (u, x, xs)) : SndS C W X (.Expr e p) (.mut none u x xs) := by
  intro ρ S o S' he σ ι F H D g sl k
  obtain ⟨ob, ap, es, cp, rfl, hu, ho, hln, hl, h1, h2⟩ := trM_some h
  simp only [evS] at he
  obtain ⟨r, S1, e1, he⟩ := at_some he
  obtain ⟨ds, S2, e2, he⟩ := at_some he
  split at he
  · cases he
  rename_i pl e3
  split at he
  · cases he
  rename_i d e4
  split at he
  · cases he
  rename_i d' q e5
  cases he
  refine ⟨_, ps_expr WE.pe (noswap rfl), ?_⟩
  exact sndMu c hu ho hln hl h1 h2 e1 e2 e3 e4 e5 g sl fun v ι' F' H' st g' sl' w _ => k σ ι' F' H' st g' sl' fun a q => .inl (w a q)
theorem snd_mutA {n : Nat} {t e : Expr} {u : Mu} {x : Ex} {xs : Exs} {gt : Tg} {p : Pos} (c : Ctx C lev T X) (h : trM T n e = some (u, x, xs)) (hg : trG T t = some gt) : SndS C W X (.Assign [t] e p) (.mut (some gt) u x xs) := by
  intro ρ S o S' he σ ι F H D g sl k
  obtain ⟨ob, ap, es, cp, rfl, hu, ho, hln, hl, h1, h2⟩ := trM_some h
  simp only [evS] at he
  obtain ⟨r, S1, e1, he⟩ := at_some he
  obtain ⟨ds, S2, e2, he⟩ := at_some he
  split at he
  · cases he
  rename_i pl e3
  split at he
  · cases he
  rename_i d e4
  split at he
  · cases he
  rename_i d' q e5
  obtain ⟨h3, rfl⟩ := ws_some he
  simp only [Option.map_eq_some_iff] at h3
  obtain ⟨ρ', h3, rfl⟩ := h3
  obtain ⟨f1, f2⟩ := trG_form hg (env := X.env)
  refine ⟨_, ps_asg WE.pe WG.pg (nm_noswap rfl) (nm_nostore (by simp [tupB]) f1) f2, ?_⟩
  refine sndMu c hu ho hln hl h1 h2 e1 e2 e3 e4 e5 g sl fun v ι' F' H' st g' sl' w rv => ?_
  exact tg_val c hg h3 g'.sub sl' rv fun σ' sl2 _ w2 => k σ' ι' F' H' st g' sl2 fun a q => .inl (w a (w2 a q))
theorem snd_six {n : Nat} {o kx e : Expr} {x y z : Ex} {p p2 : Pos} (c : Ctx C lev T X) (ho : objB o = true) (h1 : trE T n o = some x) (h2 : trE T n kx = some y) (h3 : trE T n e = some z) (hc : compB e = false) (hs : sliceB kx = false) :
    SndS C W X (.Assign [.Subscript o kx p2] e p) (.six x y z) := by
  intro ρ S ot S' he σ ι F H D g sl k
  have A := all (C := C) (lev := lev) n
  simp only [evS] at he
  obtain ⟨ry, S1, e1, he⟩ := at_some he
  obtain ⟨r, S2, e2, he⟩ := at_some he
  obtain ⟨rz, S3, e3, he⟩ := at_some he
  split at he
  case h_2 => cases he
  rename_i pl dy dz e4 e5 e6
  split at he
  · cases he
  rename_i d e7
  split at he
  · cases he
  rename_i d' q e8
  cases he
  have ha : ∀ v, assign (.Subscript o kx p2) X.env v = (do
      let ov ← holding [v] (eval o X.env)
      let iv ← holding [v, ov] (eval kx X.env)
      standAt p2
      holding [v, ov, iv] (setItem ov iv v)
      release [v, ov, iv] []) := by
    intro v
    cases kx <;> first | (simp [sliceB] at hs; done) | rfl
  refine ⟨_, ps_asg WE.pe (pg_sub WE.pe WE.pe set_list ha) (nm_noswap hc) (nm_nostore (by simp [tupB]) (by intro _ _ e; cases e)) rfl, ?_⟩
  refine (A.e c h3).1.rep e1 e5 g sl fun vy ι1 F1 H1 st1 g1 q1 => ?_
  refine sndP_of c h1 ho ρ S1 r S2 e2 σ ι1 F1 H1 _ g1 (sl.step st1) fun v ι2 F2 H2 st2 g2 q2 hv => ?_
  obtain ⟨l, rfl, hp⟩ := pl_of e4 e2 (sl.step st1) q2 hv
  refine (A.e c h2).1.rep e3 e6 g2 (sl.step (st1.tr0 st2)) fun vz ι3 F3 H3 st3 g3 q3 => ?_
  have st := (st1.tr0 st2).tr0 st3
  have hp3 : PlOk X.K σ ρ ι3 l pl := by
    cases pl with
    | slot i => exact hp
    | cell m => exact st3.pre.get hp
  have sl3 := sl.step st
  have ow := pl_own g3 sl3 hp3 e7
  refine set_ok ow q3 (q1.up (st2.tr0 st3).pre (st2.tr0 st3).mono) e8 fun u o2 => ?_
  obtain ⟨s4, g4, sl4, w4⟩ := pl_set g3 sl3 hp3 e7 o2
  exact k σ ι3 F3 _ (st.wk0.trans s4 fun a q => .inl q) g4 sl4 fun a q => .inl (w4 a q)
theorem snd_iff {t : Expr} {a b : List Stmt} {x : Ex} {y z : Sms} {p : Pos} (ht : SndT C X t x) (ha : SndSs C W X a y) (hb : SndSs C W X b z) : SndS C W X (.If t a b p) (.iff x y z) := by
  intro ρ S o S' he σ ι F H D g sl k
  simp only [evS] at he
  obtain ⟨r, S1, e1, he⟩ := at_some he
  refine ⟨_, ps_if WT.pt WSs.pss WSs.pss, ?_⟩
  split at he
  · cases he
  · rename_i hc
    exact ht ρ S r S1 true e1 hc σ ι F H _ g sl fun ι1 F1 H1 st1 g1 => iteT (ha ρ S1 o S' he σ ι1 F1 H1 D g1 (sl.step st1) (k.st0 st1))
  · rename_i hc
    exact ht ρ S r S1 false e1 hc σ ι F H _ g sl fun ι1 F1 H1 st1 g1 => iteF (hb ρ S1 o S' he σ ι1 F1 H1 D g1 (sl.step st1) (k.st0 st1))
theorem Ctx.never (c : Ctx C lev T X) : PassesOwn (model X.prog X.w) X.A X.env X.xe := by rw [c.xe]; exact PassesOwn.never
theorem snd_fr {t i : Expr} {b : List Stmt} {gt : Tg} {x : Iy} {y : Sms} {p : Pos} (c : Ctx C lev T X) (hg : trG T t = some gt) (hi : SndI C X i x) (hs : setB i = false) (hb : SndSs C W X b y) : SndS C W X (.For t i b [] p) (.fr gt x y) := by
  intro ρ S o S' he σ ι F H D g sl k
  simp only [evS] at he
  obtain ⟨ds, S1, e1, he⟩ := at_some he
  refine ⟨_, ps_for c.never c.calm WI.pi WG.pg WSs.pss (fun x => noset hs), ?_⟩
  refine hi ρ S ds S1 e1 σ ι F H g sl t _ fun J ι1 F1 H1 st1 g1 iok => ?_
  refine ⟨fun j m σ' H' => m = ds.length - j ∧ j ≤ ds.length ∧ ∃ ρ' ι' F' Sj, Stp (OwnA σ ρ) ι1 F1 H1 ι' F' H' ∧ Good X.K ι' F' H' Sj ∧ Slots X.K ι' F' H' σ' ρ' ∧ (∀ a, OwnA σ' ρ' a → OwnA σ ρ a ∨ H1 a = none) ∧
      loopF (fun x ρ' => tgSet gt (.val x) ρ') (fun ρ' => evSs C W ρ' y) (ds.drop j) ρ' Sj = some (o, S'),
    ⟨ds.length, rfl, Nat.zero_le _, ρ, ι1, F1, S1, .refl, g1, sl.step st1, fun _ q => .inl q, by simpa using he⟩, ?_⟩
  rintro j m σ' H' ⟨rfl, hj, ρ', ι', F', Sj, st, gj, slj, w, hl⟩
  have stA : Stp (OwnA σ ρ) ι F H ι' F' H' := st1.wk0.trans st fun a q => .inl q
  obtain ⟨io1, io2⟩ := iok ι' F' H' Sj st.pre st.mono gj
  have kA : Ko X σ' ρ' ι' F' H' S' D o := k.step stA fun a q => (w a q).imp id st1.dead
  by_cases hlt : j < ds.length
  · have hd : ds[j]? = some ds[j] := List.getElem?_eq_getElem hlt
    obtain ⟨go, yl⟩ := io1 j _ hd
    rw [List.drop_eq_getElem_cons hlt] at hl
    simp only [loopF] at hl
    split at hl
    · cases hl
    rename_i ρ2 hρ
    obtain ⟨ob, Sb, hb1, hl⟩ := at_some hl
    refine .inr ⟨go, fun σ5 H5 => ∃ m', m' < ds.length - j ∧ (m' = ds.length - (j + 1) ∧ j + 1 ≤ ds.length ∧ ∃ ρ' ι' F' Sj, Stp (OwnA σ ρ) ι1 F1 H1 ι' F' H5 ∧ Good X.K ι' F' H5 Sj ∧ Slots X.K ι' F' H5 σ5 ρ' ∧ (∀ a, OwnA σ5 ρ' a → OwnA σ ρ a ∨ H1 a = none) ∧
      loopF (fun x ρ' => tgSet gt (.val x) ρ') (fun ρ' => evSs C W ρ' y) (ds.drop (j + 1)) ρ' Sj = some (o, S')), fun σ5 H5 q => q, fun v H2 hy => ?_⟩
    obtain ⟨F2, st2, g2, rp⟩ := yl v H2 hy
    refine tg_val c hg hρ g2.sub (slj.step st2) rp fun σ2 sl2 _ w2 => ?_
    refine hb ρ2 Sj ob Sb hb1 σ2 ι' F2 H2 _ g2 sl2 ?_
    have stB : Stp (OwnA σ' ρ') ι' F' H' ι' F2 H2 := st2.wk0
    have w2' : ∀ a, OwnA σ2 ρ2 a → OwnA σ' ρ' a ∨ H' a = none := fun a q => .inl (w2 a q)
    have next : ∀ ρ3, loopF (fun x ρ' => tgSet gt (.val x) ρ') (fun ρ' => evSs C W ρ' y) (ds.drop (j + 1)) ρ3 Sb = some (o, S') → KN X σ2 ρ2 ι' F2 H2 Sb ρ3 (fun σ5 H5 => ∃ m', m' < ds.length - j ∧ (m' = ds.length - (j + 1) ∧ j + 1 ≤ ds.length ∧ ∃ ρ' ι' F' Sj, Stp (OwnA σ ρ) ι1 F1 H1 ι' F' H5 ∧ Good X.K ι' F' H5 Sj ∧ Slots X.K ι' F' H5 σ5 ρ' ∧ (∀ a, OwnA σ5 ρ' a → OwnA σ ρ a ∨ H1 a = none) ∧
        loopF (fun x ρ' => tgSet gt (.val x) ρ') (fun ρ' => evSs C W ρ' y) (ds.drop (j + 1)) ρ' Sj = some (o, S'))) := fun ρ3 hl3 σ5 ι5 F5 H5 st5 g5 sl5 w5 => by
      have hw : ∀ a, OwnA σ2 ρ2 a → OwnA σ ρ a ∨ H1 a = none := fun a q => w a (w2 a q)
      have stD := (st.tr0 st2)
      refine ⟨ds.length - (j + 1), by omega, rfl, by omega, ρ3, ι5, F5, Sb, stD.trans st5 hw, g5, sl5, fun a q => ?_, hl3⟩
      rcases w5 a q with z | z
      · exact hw a z
      · exact .inr (stD.dead z)
    cases ob with
    | nx ρ3 => exact next ρ3 hl
    | ct ρ3 => exact next ρ3 hl
    | bk ρ3 =>
      cases hl
      exact KN.step stB w2' (show KN X σ' ρ' ι' F' H' _ ρ3 D.nx from kA)
    | rt r =>
      cases hl
      exact KR.step stB w2' (show KR X σ' ρ' ι' F' H' _ r D.rt from kA)
  · have e : j = ds.length := by omega
    subst e
    rw [List.drop_length] at hl
    simp only [loopF, Option.some.injEq, Prod.mk.injEq] at hl
    obtain ⟨rfl, rfl⟩ := hl
    exact .inl ⟨io2, kA σ' ι' F' H' .refl gj slj fun _ q => .inl q⟩
theorem snd_whl {t : Expr} {b : List Stmt} {x : Ex} {y : Sms} {p : Pos} (c : Ctx C lev T X) (ht : SndT C X t x) (hb : SndSs C W X b y) : SndS C W X (.While t b [] p) (.whl x y) := by
  intro ρ S o S' he σ ι F H D g sl k
  simp only [evS] at he
  refine ⟨_, ps_while c.never WT.pt WSs.pss, ?_⟩
  refine ⟨fun m σ' H' => ∃ ρ' ι' F' Sj, Stp (OwnA σ ρ) ι F H ι' F' H' ∧ Good X.K ι' F' H' Sj ∧ Slots X.K ι' F' H' σ' ρ' ∧ (∀ a, OwnA σ' ρ' a → OwnA σ ρ a ∨ H a = none) ∧
      loopW (fun ρ' => evC C ρ' (.yes x)) (fun ρ' => evSs C W ρ' y) m ρ' Sj = some (o, S'), ⟨W, ρ, ι, F, S, .refl, g, sl, fun _ q => .inl q, he⟩, ?_⟩
  rintro m σ' H' ⟨ρ', ι', F', Sj, st, gj, slj, w, hl⟩
  have kA : Ko X σ' ρ' ι' F' H' S' D o := k.step st w
  cases m with
  | zero => simp [loopW] at hl
  | succ m =>
    simp only [loopW] at hl
    obtain ⟨bt, S1, e1, hl⟩ := at_some hl
    simp only [evC] at e1
    obtain ⟨r, S2, e0, e2⟩ := at_some e1
    obtain ⟨e3, rfl⟩ := ws_some e2
    refine ht ρ' Sj r _ bt e0 e3 σ' ι' F' H' _ gj slj fun ι2 F2 H2 st2 g2 => ?_
    cases bt with
    | false =>
      simp only [Bool.false_eq_true, if_false, Option.some.injEq, Prod.mk.injEq] at hl
      obtain ⟨rfl, rfl⟩ := hl
      exact iteF (kA σ' ι2 F2 H2 st2.wk0 g2 (slj.step st2) fun _ q => .inl q)
    | true =>
      simp only [if_true] at hl
      obtain ⟨ob, Sb, hb1, hl⟩ := at_some hl
      refine iteT ⟨fun σ5 H5 => ∃ m', m' < m + 1 ∧ ∃ ρ' ι' F' Sj, Stp (OwnA σ ρ) ι F H ι' F' H5 ∧ Good X.K ι' F' H5 Sj ∧ Slots X.K ι' F' H5 σ5 ρ' ∧ (∀ a, OwnA σ5 ρ' a → OwnA σ ρ a ∨ H a = none) ∧
        loopW (fun ρ' => evC C ρ' (.yes x)) (fun ρ' => evSs C W ρ' y) m' ρ' Sj = some (o, S'), fun σ5 H5 q => q, ?_⟩
      refine hb ρ' S2 ob Sb hb1 σ' ι2 F2 H2 _ g2 (slj.step st2) ?_
      have next : ∀ ρ3, loopW (fun ρ' => evC C ρ' (.yes x)) (fun ρ' => evSs C W ρ' y) m ρ3 Sb = some (o, S') → KN X σ' ρ' ι2 F2 H2 Sb ρ3 (fun σ5 H5 => ∃ m', m' < m + 1 ∧ ∃ ρ' ι' F' Sj, Stp (OwnA σ ρ) ι F H ι' F' H5 ∧ Good X.K ι' F' H5 Sj ∧ Slots X.K ι' F' H5 σ5 ρ' ∧ (∀ a, OwnA σ5 ρ' a → OwnA σ ρ a ∨ H a = none) ∧
          loopW (fun ρ' => evC C ρ' (.yes x)) (fun ρ' => evSs C W ρ' y) m' ρ' Sj = some (o, S')) := fun ρ3 hl3 σ5 ι5 F5 H5 st5 g5 sl5 w5 => by
        refine ⟨m, by omega, ρ3, ι5, F5, Sb, (st.tr0 st2).trans st5 w, g5, sl5, fun a q => ?_, hl3⟩
        rcases w5 a q with z | z
        · exact w a z
        · exact .inr ((st.tr0 st2).dead z)
      cases ob with
      | nx ρ3 => exact next ρ3 hl
      | ct ρ3 => exact next ρ3 hl
      | bk ρ3 => cases hl; exact KN.st0 st2 (show KN X σ' ρ' ι' F' H' _ ρ3 D.nx from kA)
      | rt r => cases hl; exact KR.step (σ1 := σ') (ρ1 := ρ') st2.wk0 (fun _ q => .inl q) (show KR X σ' ρ' ι' F' H' _ r D.rt from kA)
structure AllS (C : Orc) (lev W n : Nat) : Prop where
  s : ∀ {T X st s}, Ctx C lev T X → trS T n st = some s → SndS C W X st s
  b : ∀ {T X st s}, Ctx C lev T X → trSs T n st = some s → SndSs C W X st s
theorem sw_loc {y : Str} {py pos : Pos} {sc : Scope} (hs : (swB T y py sc pos || decide (T.nm.lookup y = some .local)) = true) : T.nm.lookup y = some .local := by
  simp only [swB, Bool.or_eq_true, Bool.and_eq_true, decide_eq_true_eq] at hs
  rcases hs with hs | hs
  · exact hs.1.1
  · exact hs
theorem trAsg_ok {n : Nat} {t e : Expr} {l : Nat} {s : Sm} {p : Pos} (c : Ctx C lev T X) (h : trAsg T n t e l = some s) : SndS C W X (.Assign [t] e p) s := by
  have A := all (C := C) (lev := lev) n
  unfold trAsg at h
  split at h
  · split at h
    · cases h
    rename_i hc
    split at h
    · rename_i i x h1 h2
      cases h
      exact snd_new c (A.e c h2).1 h1 ((Bool.not_eq_true _).mp hc)
    · cases h
  · split at h
    · split at h
      · split at h
        · rename_i hs
          split at h
          · rename_i i x h1 h2
            cases h
            exact snd_asgLc c (all_lc c h2) h1 (sw_loc hs)
          · cases h
        · cases h
      · cases h
    · split at h
      · cases h
      rename_i hc
      simp only [Bool.or_eq_true, not_or, Bool.not_eq_true] at hc
      split at h
      · rename_i g x h1 h2
        cases h
        exact snd_asg c (A.e c h2).1 h1 hc.1 hc.2
      · cases h
theorem all_s {n : Nat} (AS : AllS C lev W n) {st : Stmt} {s : Sm} (c : Ctx C lev T X) (h : trS T (n + 1) st = some s) : SndS C W X st s := by
  have A := all (C := C) (lev := lev) n
  unfold trS at h
  split at h
  · split at h
    · rename_i u x xs h1
      cases h
      exact snd_mut c h1
    · split at h
      · cases h
      rename_i hc
      simp only [Option.map_eq_some_iff] at h
      obtain ⟨x, h1, rfl⟩ := h
      exact snd_ex (A.e c h1).1 ((Bool.not_eq_true _).mp hc)
  · split at h
    · cases h
    rename_i hc
    simp only [Bool.or_eq_true, not_or, Bool.not_eq_true, Bool.not_eq_false', Bool.not_eq_true'] at hc
    split at h
    · rename_i x y z h1 h2 h3
      cases h
      exact snd_six c (by simpa using hc.1.1) h1 h2 h3 hc.1.2 hc.2
    · cases h
  · split at h
    · rename_i u x xs h1
      simp only [Option.map_eq_some_iff] at h
      obtain ⟨g, h2, rfl⟩ := h
      exact snd_mutA c h1 h2
    · exact trAsg_ok c h
  · split at h
    · rename_i x y z h1 h2 h3
      cases h
      exact snd_iff (A.e c h1).2 (AS.b c h2) (AS.b c h3)
    · cases h
  · split at h
    · cases h
    rename_i hs
    split at h
    · rename_i g x y h1 h2 h3
      cases h
      exact snd_fr c h1 (A.i c h2) ((Bool.not_eq_true _).mp hs) (AS.b c h3)
    · cases h
  · split at h
    · rename_i x y h1 h2
      cases h
      exact snd_whl c (A.e c h1).2 (AS.b c h2)
    · cases h
  · simp only [Option.map_eq_some_iff] at h
    obtain ⟨x, h1, rfl⟩ := h
    exact snd_ret (A.e c h1).1
  · cases h; exact snd_retN
  · cases h; exact snd_pas
  · cases h; exact snd_brk
  · cases h; exact snd_cnt
  · cases h
theorem all_b {n : Nat} (AS : AllS C lev W n) {st : List Stmt} {s : Sms} (c : Ctx C lev T X) (h : trSs T (n + 1) st = some s) : SndSs C W X st s := by
  cases st with
  | nil => simp only [trSs, Option.some.injEq] at h; subst h; exact sndSs_nil
  | cons a r =>
    simp only [trSs] at h
    split at h
    · rename_i x y h1 h2
      cases h
      exact sndSs_frz (sndSs_cons (AS.s c h1) (AS.b c h2)) _
    · cases h
theorem allS : ∀ n : Nat, AllS C lev W n
  | 0 => ⟨fun _ h => by simp [trS] at h, fun _ h => by simp [trSs] at h⟩
  | n + 1 => ⟨all_s (allS n), all_b (allS n)⟩
end Ds
namespace Ds
open PySem PySem.Spec PyProof.Rows L2
structure PFn where
  name : Str
  st : Stmt
  N : List Str
  ps : List Str
  body : Sms
  fz : List (Nat × List Nat) := []
  nw : List Nat := []
def PFn.fn (p : PFn) : Fn := ⟨p.ps.length, p.N.length, p.body⟩
def stOf : List (Str × NameKind) → List Str
  | [] => []
  | (x, k) :: r => if isOwn k then x :: stOf r else stOf r
def tbOf (cs : List (Str × D)) (fns bl : List Str) (p : PFn) : Tb :=
  { N := p.N, nm := (defScope p.st).names, st := stOf (defScope p.st).names, cs := cs, fns := fns, bl := bl, fz := p.fz, nw := p.nw }
def scB (N P : List Str) (sc : Scope) : Bool :=
  decide (sc.kind = .function) && !sc.isCoroutine && !sc.isGenerator && decide N.Nodup && decide (N.take P.length = P) && P.all (fun x => decide (sc.names.lookup x = some .local) || decide (sc.names.lookup x = some .cell)) && sc.names.all (fun y => !decide (y.2 = .free)) &&
    (stOf sc.names).all (fun x => decide (sc.names.lookup x = some .local) || decide (sc.names.lookup x = some .cell))
theorem scB_ok {N P : List Str} {sc : Scope} (h : scB N P sc = true) : FnScope N P sc ∧ ∀ x ∈ stOf sc.names, L2.Loc sc x := by
  unfold scB at h
  simp only [Bool.and_eq_true, Bool.not_eq_true', decide_eq_true_eq, List.all_eq_true, Bool.or_eq_true, decide_eq_false_iff_not] at h
  obtain ⟨⟨⟨⟨⟨⟨⟨h1, h2⟩, h3⟩, h4⟩, h5⟩, h6⟩, h7⟩, h8⟩ := h
  exact ⟨⟨h1, h2, h3, h4, h5, h6, h7⟩, fun x hx => h8 x hx⟩
structure PFnOk (cs : List (Str × D)) (fns bl : List Str) (fuel : Nat) (p : PFn) : Prop where
  sc : scB p.N p.ps (defScope p.st) = true
  tr : trSs (tbOf cs fns bl p) fuel (defBody p.st) = some p.body
section
variable {P : Program} {w : World} {K : PySem.W.Frag} {mg : Str → Option Value} {base : Heap}
structure PAt (K : PySem.W.Frag) (mg : Str → Option Value) (p : PFn) (f : Addr) (fd : FuncData) : Prop where
  fn : L2.Fun K p.name p.name p.st f fd
  mgf : mg p.name = some (.ref f)
  bd : Binds K fd p.ps []
theorem prog_ok {fs : List PFn} {cs : List (Str × D)} {bl : List Str} {fuel W : Nat} (hE : ∀ (i : Nat) p, fs[i]? = some p → ∃ f fd, PAt K mg p f fd) (hT : ∀ p ∈ fs, PFnOk cs (fs.map (·.name)) bl fuel p)
    (hcs : ∀ x d, cs.lookup x = some d → ∃ u v, mg x = some u ∧ RelV v u ∧ ∀ ι F, Rep K ι F v d) (hbl : ∀ x ∈ bl, mg x = none) :
    ∀ (n i : Nat) p f fd, fs[i]? = some p → PAt K mg p f fd → FnOk P w K mg base CX0 n f fd p.ps (spF K (callN (fs.map (·.fn)) W n) i)
  | 0, i, p, f, fd, hi, A => ⟨fun vs H Q E h => (by obtain ⟨_, _, _, _, _, _, _, _, h, _⟩ := h; simp [callN] at h), fun _ _ _ _ _ _ _ _ _ _ _ _ _ h => (by obtain ⟨_, _, _, _, _, _, _, _, h, _⟩ := h; simp [callN] at h)⟩
  | n + 1, i, p, f, fd, hi, A => by
    have ih := prog_ok (W := W) hE hT hcs hbl n
    have hp := hT p (List.mem_of_getElem? hi)
    obtain ⟨sc1, sc2⟩ := scB_ok hp.sc
    have hfn : (fs.map (·.fn))[i]? = some p.fn := by rw [List.getElem?_map, hi]; rfl
    have len : ∀ vs H Q E, spF K (callN (fs.map (·.fn)) W (n + 1)) i vs H Q E → vs.length = p.ps.length := fun vs H Q E h => by
      obtain ⟨ι, F, S, ds, r, S', g, rl, hc, _⟩ := h
      simp only [callN, hfn] at hc
      split at hc
      · rename_i hl; rw [rl.length]; exact hl
      · cases hc
    refine A.fn.ok sc1 len fun cdv Ar outer s H vs Q E hr h => ⟨_, WSs.pss, ?_⟩
    have hvl := len vs H Q E h
    obtain ⟨ι, F, S, ds, r, S', g, rl, hc, k⟩ := h
    simp only [callN, hfn] at hc
    split at hc
    case isFalse => cases hc
    rename_i hl
    obtain ⟨o, S1, e1, hc⟩ := at_some hc
    generalize hX : (cxOf CX0 P w K mg base p.N p.name (defScope p.st) f cdv Ar outer s H E).nox = X
    have hK : X.K = K := by subst hX; rfl
    have ctx : Ctx (callN (fs.map (·.fn)) W n) n (tbOf cs (fs.map (·.name)) bl p) X := by
      subst hX
      refine ⟨rfl, sc1.nd, rfl, sc1.kind, rfl, hr, rfl, fun x hx => ⟨sc2 x hx, .inl rfl⟩, hcs, hbl, fun j f' hj => ?_⟩
      rw [show (tbOf cs (fs.map (·.name)) bl p).fns = fs.map (·.name) from rfl, List.getElem?_map] at hj
      cases hq : fs[j]? with
      | none => rw [hq] at hj; cases hj
      | some p' =>
        rw [hq] at hj
        cases hj
        obtain ⟨fA, fd', A'⟩ := hE j p' hq
        exact ⟨fA, fd', p'.ps, A'.mgf, A'.fn.kp, A'.bd, ih j p' fA fd' hq A'⟩
    have hN : p.ps.length ≤ p.N.length := by have := congrArg List.length sc1.pre; rw [List.length_take] at this; omega
    have hρ0 : ∀ (j : Nat) (d : D), (ds.map (fun d => some (R.val d)) ++ List.replicate (p.fn.nn - p.fn.np) none)[j]? = some (some (.new d)) → False := fun j d hj => by
      rcases Nat.lt_or_ge j ds.length with q | q
      · rw [List.getElem?_append_left (by simpa using q), List.getElem?_map] at hj
        cases e : ds[j]? with
        | none => rw [e] at hj; cases hj
        | some d' => rw [e] at hj; simp at hj
      · rw [List.getElem?_append_right (by simpa using q), List.getElem?_replicate] at hj
        split at hj <;> simp at hj
    have slots : Slots X.K ι F H (L2.start p.N vs) (ds.map (fun d => some (R.val d)) ++ List.replicate (p.fn.nn - p.fn.np) none) := by
      refine ⟨?_, fun j d hj => ?_, fun j d hj => (hρ0 j d hj).elim, fun j _ _ d _ hj _ _ _ => (hρ0 j d hj).elim⟩
      · unfold L2.start PFn.fn
        simp only [List.length_append, List.length_map, List.length_replicate]
        rw [rl.length] at hvl ⊢
        omega
      · rcases Nat.lt_or_ge j ds.length with q | q
        · rw [List.getElem?_append_left (by simpa using q), List.getElem?_map, List.getElem?_eq_getElem q] at hj
          simp at hj
          obtain ⟨v, h1, h2⟩ := rl.get (List.getElem?_eq_getElem q)
          refine ⟨v, ?_, by rw [hK, ← hj]; exact h2⟩
          unfold L2.start
          have q' : j < vs.length := by rw [rl.length]; exact q
          rw [List.getElem?_append_left (by simpa using q'), List.getElem?_map, h1]
          rfl
        · rw [List.getElem?_append_right (by simpa using q), List.getElem?_replicate] at hj
          split at hj <;> simp at hj
    have noOwn : ∀ a, OwnA (L2.start p.N vs) (ds.map (fun d => some (R.val d)) ++ List.replicate (p.fn.nn - p.fn.np) none) a → NoO a := fun a ⟨j, d, hj, _⟩ => (hρ0 j d hj).elim
    refine (allS (W := W) fuel).b ctx hp.tr _ S o S1 e1 (L2.start p.N vs) ι F H _ (by rw [hK]; exact g) slots ?_
    cases o with
    | nx ρ' =>
      cases hc
      exact fun σ' ι' F' H' st g' sl' _ => k .non ι' F' H' (st.weak noOwn) (by rw [← hK]; exact g') .non
    | rt r1 =>
      cases hc
      refine fun v ι' F' H' st g' q => k v ι' F' H' (st.weak noOwn) (by rw [← hK]; exact g') ?_
      rw [hK] at q
      cases r with
      | val d => exact q
      | new d =>
        obtain ⟨a, e, h, q⟩ := q
        exact ⟨a, e, h.resolve_left fun z => noOwn a z, q⟩
      | brw d => exact q.elim
    | bk _ => cases hc
    | ct _ => cases hc
def spLaw (K : PySem.W.Frag) : Sp := fun vs H Q _ => ∃ (a : Addr) (ns : List Int), vs = [.ref a] ∧ SqL K H a (ns.map V.int) ∧ ns.length ≤ 63 ∧ ∀ H', Q (.bl true) H'
theorem ints_rep {ι : List Addr} {F : Hp} : ∀ ns : List Int, RepL K ι F (ns.map V.int) (ns.map D.int)
  | [] => .nil
  | n :: ns => .cons (.int n) (ints_rep ns)
theorem law_ok {fs : List PFn} {cs : List (Str × D)} {bl : List Str} {fuel W n i : Nat} {p : PFn} {f : Addr} {fd : FuncData} (hE : ∀ (i : Nat) p, fs[i]? = some p → ∃ f fd, PAt K mg p f fd) (hT : ∀ p ∈ fs, PFnOk cs (fs.map (·.name)) bl fuel p)
    (hcs : ∀ x d, cs.lookup x = some d → ∃ u v, mg x = some u ∧ RelV v u ∧ ∀ ι F, Rep K ι F v d) (hbl : ∀ x ∈ bl, mg x = none) (hi : fs[i]? = some p) (A : PAt K mg p f fd)
    (hL : ∀ ns : List Int, ns.length ≤ 63 → ∃ S', callN (fs.map (·.fn)) W n i [.fz (ns.map D.int)] [] = some (.val (.bl true), S')) : FnOk P w K mg base CX0 n f fd p.ps (spLaw K) := by
  refine (prog_ok (P := P) (w := w) (base := base) (W := W) hE hT hcs hbl n i p f fd hi A).imp fun vs H Q E h => ?_
  obtain ⟨a, ns, rfl, hS, hlen, q⟩ := h
  obtain ⟨S', hc⟩ := hL ns hlen
  refine ⟨[], H, [], _, _, S', ⟨.refl, rfl, fun n a d h => (by simp at h), List.nodup_nil⟩, .cons (.fz hS (ints_rep ns)) .nil, hc, fun v ι' F' H' st g' r => ?_⟩
  cases r
  exact q H'
end
end Ds
namespace Ds
open PySem
theorem ixN_nat {n k : Nat} (h : k < n) : L2.ixN n (k : Int) = some k := by
  unfold L2.ixN
  rw [if_pos (by omega), if_pos (by omega)]
  simp
theorem atI_nat' {α : Type} {xs : List α} {k : Nat} : L2.atI xs (k : Int) = xs[k]? := by
  unfold L2.atI L2.ixN
  rw [if_pos (by omega)]
  by_cases h : k < xs.length
  · rw [if_pos (by omega)]; simp
  · rw [if_neg (by omega)]; simp; omega
@[simp] theorem atI_0 {α : Type} {x : α} {xs : List α} : L2.atI (x :: xs) 0 = some x := by have := atI_nat' (xs := x :: xs) (k := 0); simpa using this
@[simp] theorem atI_1 {α : Type} {x y : α} {xs : List α} : L2.atI (x :: y :: xs) 1 = some y := by have := atI_nat' (xs := x :: y :: xs) (k := 1); simpa using this
@[simp] theorem atI_2 {α : Type} {x y z : α} {xs : List α} : L2.atI (x :: y :: z :: xs) 2 = some z := by have := atI_nat' (xs := x :: y :: z :: xs) (k := 2); simpa using this
@[simp] theorem atI_3 {α : Type} {x y z u : α} {xs : List α} : L2.atI (x :: y :: z :: u :: xs) 3 = some u := by have := atI_nat' (xs := x :: y :: z :: u :: xs) (k := 3); simpa using this
@[simp] theorem ixN_0 {n : Nat} : L2.ixN (n + 1) 0 = some 0 := by have := ixN_nat (n := n + 1) (k := 0) (by omega); simpa using this
@[simp] theorem ixN_1 {n : Nat} : L2.ixN (n + 1 + 1) 1 = some 1 := by have := ixN_nat (n := n + 1 + 1) (k := 1) (by omega); simpa using this
theorem sIx_n (n d k : Nat) : HT.sIx n d (some (k : Int)) = min k n := HT.sIx_nat n d k
theorem cut_from {α : Type} (xs : List α) (k : Nat) : cut xs (some (k : Int)) none = xs.drop k := by
  unfold cut
  rw [sIx_n, HT.sIx_none]
  by_cases h : k ≤ xs.length
  · rw [Nat.min_eq_left h, List.take_of_length_le (by simp)]
  · rw [Nat.min_eq_right (by omega), Nat.sub_self, List.take_zero, List.drop_eq_nil_of_le (by omega)]
theorem cut_to {α : Type} (xs : List α) (k : Nat) : cut xs none (some (k : Int)) = xs.take k := by
  unfold cut
  rw [sIx_n, HT.sIx_none]
  by_cases h : k ≤ xs.length
  · rw [Nat.min_eq_left h]; simp
  · rw [Nat.min_eq_right (by omega), List.take_of_length_le (by simp), List.take_of_length_le (by omega)]; simp
@[simp] theorem cut_1 {α : Type} (xs : List α) : cut xs (some 1) none = xs.drop 1 := cut_from xs 1
@[simp] theorem cut_2 {α : Type} (xs : List α) : cut xs (some 2) none = xs.drop 2 := cut_from xs 2
theorem sizeLine_val : sizeLine = 16777216 := by decide
variable (C : Orc) (W : Nat)
def seqK (r : Sms) : Option (Out × Sto) → Option (Out × Sto)
  | some (.nx ρ, S) => evSs C W ρ r S
  | some (.rt x, S) => some (.rt x, S)
  | some (.bk ρ, S) => some (.bk ρ, S)
  | some (.ct ρ, S) => some (.ct ρ, S)
  | none => none
def iffB (ρ : Env) (a b : Sms) (S : Sto) : Option Bool → Option (Out × Sto)
  | none => none
  | some true => evSs C W ρ a S
  | some false => evSs C W ρ b S
def iffK (ρ : Env) (a b : Sms) : Option (R × Sto) → Option (Out × Sto)
  | some (x, S) => iffB C W ρ a b S (truD (look S x.any))
  | none => none
def asgK (ρ : Env) (t : Tg) : Option (R × Sto) → Option (Out × Sto)
  | some (x, S) => withS ((tgSet t x ρ).map .nx) S
  | none => none
def retK : Option (R × Sto) → Option (Out × Sto)
  | some (x, S) => some (.rt x.out, S)
  | none => none
def bdy (b : Sms) : Env → Sto → Option (Out × Sto) := fun ρ => evSs C W ρ b
def tgF (t : Tg) : D → Env → Option Env := fun x ρ => tgSet t (.val x) ρ
def cdF (c : Ox) : Env → Sto → Option (Bool × Sto) := fun ρ => evC C ρ c
def elF (e : Ex) : Env → Sto → Option (R × Sto) := fun ρ => evE C ρ e
def frK (ρ : Env) (t : Tg) (b : Sms) : Option (List D × Sto) → Option (Out × Sto)
  | some (xs, S) => loopF (tgF t) (bdy C W b) xs ρ S
  | none => none
def lcZ : Option (List D × Sto) → Option (R × Sto)
  | some (ds, S) => if ds.length ≤ sizeLine then some (.new (.lst ds), S) else none
  | none => none
def lcK (ρ : Env) (e : Ex) (own : List Nat) (t : Tg) (c : Ox) : Option (List D × Sto) → Option (R × Sto)
  | some (xs, S) => lcZ (lcLoop (tgF t) (cdF C c) (elF C e) (wipeE ρ own) xs S)
  | none => none
def iteB (ρ : Env) (a b : Ex) (S : Sto) : Option Bool → Option (R × Sto)
  | none => none
  | some true => evE C ρ a S
  | some false => evE C ρ b S
def iteK (ρ : Env) (a b : Ex) : Option (R × Sto) → Option (R × Sto)
  | some (x, S) => iteB C ρ a b S (truD (look S x.any))
  | none => none
def andB (ρ : Env) (b : Ex) (x : R) (S : Sto) : Option Bool → Option (R × Sto)
  | none => none
  | some true => evE C ρ b S
  | some false => some (x, S)
def andK (ρ : Env) (b : Ex) : Option (R × Sto) → Option (R × Sto)
  | some (x, S) => andB C ρ b x S (truD (look S x.any))
  | none => none
def orB (ρ : Env) (b : Ex) (x : R) (S : Sto) : Option Bool → Option (R × Sto)
  | none => none
  | some true => some (x, S)
  | some false => evE C ρ b S
def orK (ρ : Env) (b : Ex) : Option (R × Sto) → Option (R × Sto)
  | some (x, S) => orB C ρ b x S (truD (look S x.any))
  | none => none
variable {C : Orc} {W : Nat} {ρ : Env} {S : Sto}
@[simp] theorem seqK_nx {r : Sms} {ρ : Env} : seqK C W r (some (.nx ρ, S)) = evSs C W ρ r S := rfl
@[simp] theorem seqK_rt {r : Sms} {x : R} : seqK C W r (some (.rt x, S)) = some (.rt x, S) := rfl
@[simp] theorem seqK_bk {r : Sms} {ρ : Env} : seqK C W r (some (.bk ρ, S)) = some (.bk ρ, S) := rfl
@[simp] theorem seqK_ct {r : Sms} {ρ : Env} : seqK C W r (some (.ct ρ, S)) = some (.ct ρ, S) := rfl
@[simp] theorem iffK_some {a b : Sms} {x : R} : iffK C W ρ a b (some (x, S)) = iffB C W ρ a b S (truD (look S x.any)) := rfl
@[simp] theorem iffB_t {a b : Sms} : iffB C W ρ a b S (some true) = evSs C W ρ a S := rfl
@[simp] theorem iffB_f {a b : Sms} : iffB C W ρ a b S (some false) = evSs C W ρ b S := rfl
@[simp] theorem iteK_some {a b : Ex} {x : R} : iteK C ρ a b (some (x, S)) = iteB C ρ a b S (truD (look S x.any)) := rfl
@[simp] theorem iteB_t {a b : Ex} : iteB C ρ a b S (some true) = evE C ρ a S := rfl
@[simp] theorem iteB_f {a b : Ex} : iteB C ρ a b S (some false) = evE C ρ b S := rfl
@[simp] theorem andK_some {b : Ex} {x : R} : andK C ρ b (some (x, S)) = andB C ρ b x S (truD (look S x.any)) := rfl
@[simp] theorem andB_t {b : Ex} {x : R} : andB C ρ b x S (some true) = evE C ρ b S := rfl
@[simp] theorem andB_f {b : Ex} {x : R} : andB C ρ b x S (some false) = some (x, S) := rfl
@[simp] theorem orK_some {b : Ex} {x : R} : orK C ρ b (some (x, S)) = orB C ρ b x S (truD (look S x.any)) := rfl
@[simp] theorem orB_t {b : Ex} {x : R} : orB C ρ b x S (some true) = some (x, S) := rfl
@[simp] theorem orB_f {b : Ex} {x : R} : orB C ρ b x S (some false) = evE C ρ b S := rfl
@[simp] theorem asgK_some {t : Tg} {x : R} : asgK ρ t (some (x, S)) = withS ((tgSet t x ρ).map .nx) S := rfl
@[simp] theorem retK_some {x : R} : retK (some (x, S)) = some (.rt x.out, S) := rfl
@[simp] theorem frK_some {t : Tg} {b : Sms} {xs : List D} : frK C W ρ t b (some (xs, S)) = loopF (tgF t) (bdy C W b) xs ρ S := rfl
@[simp] theorem lcK_some {e : Ex} {own : List Nat} {t : Tg} {c : Ox} {xs : List D} : lcK C ρ e own t c (some (xs, S)) = lcZ (lcLoop (tgF t) (cdF C c) (elF C e) (wipeE ρ own) xs S) := rfl
theorem lcZ_some {ds : List D} (h : ds.length ≤ sizeLine) : lcZ (some (ds, S)) = some (.new (.lst ds), S) := by simp only [lcZ]; rw [if_pos h]
@[simp] theorem evSs_nil : evSs C W ρ .nil S = some (.nx ρ, S) := by simp only [evSs]
@[simp] theorem evSs_cons {s : Sm} {r : Sms} : evSs C W ρ (.cons s r) S = seqK C W r (evS C W ρ s S) := by
  simp only [evSs]
  cases h : evS C W ρ s S with
  | none => rfl
  | some p => obtain ⟨o, S1⟩ := p; cases o <;> rfl
@[simp] theorem evS_ret {e : Ex} : evS C W ρ (.ret e) S = retK (evE C ρ e S) := by
  simp only [evS]
  cases evE C ρ e S with
  | none => rfl
  | some p => rfl
@[simp] theorem evS_asg {t : Tg} {e : Ex} : evS C W ρ (.asg t e) S = asgK ρ t (evE C ρ e S) := by
  simp only [evS]
  cases evE C ρ e S with
  | none => rfl
  | some p => rfl
@[simp] theorem evS_iff {c : Ex} {a b : Sms} : evS C W ρ (.iff c a b) S = iffK C W ρ a b (evE C ρ c S) := by
  simp only [evS]
  cases evE C ρ c S with
  | none => rfl
  | some p =>
    obtain ⟨x, S1⟩ := p
    simp only [andThen_some, iffK_some]
    cases truD (look S1 x.any) with
    | none => rfl
    | some b => cases b <;> rfl
@[simp] theorem evS_fr {t : Tg} {it : Iy} {b : Sms} : evS C W ρ (.fr t it b) S = frK C W ρ t b (evI C ρ it S) := by
  simp only [evS]
  cases evI C ρ it S with
  | none => rfl
  | some p => rfl
theorem evS_whl {c : Ex} {b : Sms} : evS C W ρ (.whl c b) S = loopW (cdF C (.yes c)) (bdy C W b) W ρ S := by simp only [evS]; rfl
@[simp] theorem evS_retN : evS C W ρ .retN S = some (.rt (.val .non), S) := by simp only [evS]
@[simp] theorem evS_pas : evS C W ρ .pas S = some (.nx ρ, S) := by simp only [evS]
@[simp] theorem evS_brk : evS C W ρ .brk S = some (.bk ρ, S) := by simp only [evS]
@[simp] theorem evS_cnt : evS C W ρ .cnt S = some (.ct ρ, S) := by simp only [evS]
@[simp] theorem evE_lit {d : D} : evE C ρ (.lit d) S = some (.val d, S) := by simp only [evE]
theorem evE_val {i : Nat} {d : D} (h : ρ[i]? = some (some (.val d))) : evE C ρ (.nm i) S = some (.val d, S) := by simp only [evE, h]
theorem evE_new {i : Nat} {d : D} (h : ρ[i]? = some (some (.new d))) : evE C ρ (.nm i) S = some (.brw d, S) := by simp only [evE, h]
@[simp] theorem evE_ite {c a b : Ex} : evE C ρ (.ite c a b) S = iteK C ρ a b (evE C ρ c S) := by
  simp only [evE]
  cases evE C ρ c S with
  | none => rfl
  | some p =>
    obtain ⟨x, S1⟩ := p
    simp only [andThen_some, iteK_some]
    cases truD (look S1 x.any) with
    | none => rfl
    | some b => cases b <;> rfl
@[simp] theorem evE_and {a b : Ex} : evE C ρ (.and a b) S = andK C ρ b (evE C ρ a S) := by
  simp only [evE]
  cases evE C ρ a S with
  | none => rfl
  | some p =>
    obtain ⟨x, S1⟩ := p
    simp only [andThen_some, andK_some]
    cases truD (look S1 x.any) with
    | none => rfl
    | some b => cases b <;> rfl
@[simp] theorem evE_or {a b : Ex} : evE C ρ (.or a b) S = orK C ρ b (evE C ρ a S) := by
  simp only [evE]
  cases evE C ρ a S with
  | none => rfl
  | some p =>
    obtain ⟨x, S1⟩ := p
    simp only [andThen_some, orK_some]
    cases truD (look S1 x.any) with
    | none => rfl
    | some b => cases b <;> rfl
@[simp] theorem evE_lc {e : Ex} {own : List Nat} {t : Tg} {it : Iy} {c : Ox} : evE C ρ (.lc e own t it c) S = lcK C ρ e own t c (evI C ρ it S) := by
  simp only [evE]
  cases evI C ρ it S with
  | none => rfl
  | some p =>
    obtain ⟨xs, S1⟩ := p
    simp only [andThen_some, lcK_some]
    show andThen (lcLoop (tgF t) (cdF C c) (elF C e) (wipeE ρ own) xs S1) _ = lcZ (lcLoop (tgF t) (cdF C c) (elF C e) (wipeE ρ own) xs S1)
    cases lcLoop (tgF t) (cdF C c) (elF C e) (wipeE ρ own) xs S1 with
    | none => rfl
    | some p => rfl
def rdS (S : Sto) : Option (Option R) → Option (R × Sto)
  | some (some (.val d)) => some (.val d, S)
  | some (some (.new d)) => some (.brw d, S)
  | _ => none
@[simp] theorem rdS_val {d : D} : rdS S (some (some (.val d))) = some (.val d, S) := rfl
@[simp] theorem rdS_new {d : D} : rdS S (some (some (.new d))) = some (.brw d, S) := rfl
@[simp] theorem evE_nm {i : Nat} : evE C ρ (.nm i) S = rdS S ρ[i]? := by
  simp only [evE]
  cases ρ[i]? with
  | none => rfl
  | some q =>
    cases q with
    | none => rfl
    | some r => cases r <;> rfl
@[simp] theorem evE_bin {op : Bop} {a b : Ex} : evE C ρ (.bin op a b) S = andThen (evE C ρ a S) fun x S1 => andThen (evE C ρ b S1) fun y S2 => withS (binD op (look S2 x.any) (look S2 y.any)) S2 := by simp only [evE]
@[simp] theorem evE_neg {a : Ex} : evE C ρ (.neg a) S = andThen (evE C ρ a S) fun x S1 => withS ((negD x.any).map .val) S1 := by simp only [evE]
@[simp] theorem evE_not {a : Ex} : evE C ρ (.not a) S = andThen (evE C ρ a S) fun x S1 => withS ((truD (look S1 x.any)).map fun b => .val (.bl (!b))) S1 := by simp only [evE]
@[simp] theorem evE_cmp {op : Cop} {a b : Ex} : evE C ρ (.cmp op a b) S = andThen (evE C ρ a S) fun x S1 => andThen (evE C ρ b S1) fun y S2 => withS ((cmpD op (look S2 x.any) (look S2 y.any)).map fun b => .val (.bl b)) S2 := by simp only [evE]
@[simp] theorem evE_tup {es : Exs} : evE C ρ (.tup es) S = andThen (evA C ρ es S) fun ds S1 => if ds.length ≤ sizeLine then some (.val (.tup ds), S1) else none := by simp only [evE]
@[simp] theorem evE_lst {es : Exs} : evE C ρ (.lst es) S = andThen (evA C ρ es S) fun ds S1 => if ds.length ≤ sizeLine then some (.new (.lst ds), S1) else none := by simp only [evE]
@[simp] theorem evE_ix {a b : Ex} : evE C ρ (.ix a b) S = andThen (evE C ρ a S) fun x S1 => andThen (evE C ρ b S1) fun y S2 => withS ((ixD (look S2 x.any) (look S2 y.any)).map .val) S2 := by simp only [evE]
@[simp] theorem evE_sl {a : Ex} {lo hi : Ox} : evE C ρ (.sl a lo hi) S = andThen (evE C ρ a S) fun x S1 => andThen (evO C ρ lo S1) fun l S2 => andThen (evO C ρ hi S2) fun h S3 => withS (slD (look S3 x.any) l h) S3 := by simp only [evE]
@[simp] theorem evE_call {f : Nat} {es : Exs} : evE C ρ (.call f es) S = andThen (evA C ρ es S) fun ds S1 => C f ds S1 := by simp only [evE]
@[simp] theorem evE_bi {b : Bi} {a : Ex} : evE C ρ (.bi b a) S = andThen (evE C ρ a S) fun x S1 => withS (biD b (look S1 x.any)) S1 := by simp only [evE]
@[simp] theorem evE_isi {a : Ex} {ts : List Ty} : evE C ρ (.isi a ts) S = andThen (evE C ρ a S) fun x S1 => withS ((isDs (look S1 x.any) ts).map fun b => .val (.bl b)) S1 := by simp only [evE]
@[simp] theorem evA_nil : evA C ρ .nil S = some ([], S) := by simp only [evA]
def purK (C : Orc) (ρ : Env) (es : Exs) (S : Sto) : Option D → Option (List D × Sto)
  | none => none
  | some d => andThen (evA C ρ es S) fun ds S2 => some (d :: ds, S2)
@[simp] theorem purK_some {es : Exs} {d : D} : purK C ρ es S (some d) = andThen (evA C ρ es S) fun ds S2 => some (d :: ds, S2) := rfl
@[simp] theorem evA_cons {e : Ex} {es : Exs} : evA C ρ (.cons e es) S = andThen (evE C ρ e S) fun x S1 => purK C ρ es S1 x.pur := by
  simp only [evA]
  cases evE C ρ e S with
  | none => rfl
  | some p =>
    obtain ⟨x, S1⟩ := p
    simp only [andThen_some]
    cases x.pur <;> rfl
def intO (S : Sto) : D → Option (Option Int × Sto)
  | .int i => some (some i, S)
  | _ => none
@[simp] theorem intO_int {i : Int} : intO S (.int i) = some (some i, S) := rfl
@[simp] theorem evO_no : evO C ρ .no S = some (none, S) := by simp only [evO]
@[simp] theorem evO_yes {e : Ex} : evO C ρ (.yes e) S = andThen (evE C ρ e S) fun x S1 => intO S1 x.any := by
  simp only [evO]
  cases evE C ρ e S with
  | none => rfl
  | some p =>
    obtain ⟨x, S1⟩ := p
    simp only [andThen_some]
    cases x.any <;> rfl
@[simp] theorem evC_no : evC C ρ .no S = some (true, S) := by simp only [evC]
@[simp] theorem evC_yes {e : Ex} : evC C ρ (.yes e) S = andThen (evE C ρ e S) fun x S1 => withS (truD (look S1 x.any)) S1 := by simp only [evC]
def itK (S : Sto) : Option D → Option (List D × Sto)
  | some d => withS (itemsOf d) S
  | none => none
@[simp] theorem itK_some {d : D} : itK S (some d) = withS (itemsOf d) S := rfl
@[simp] theorem evI_seq {e : Ex} : evI C ρ (.seq e) S = andThen (evE C ρ e S) fun x S1 => itK S1 x.pur := by
  simp only [evI]
  cases evE C ρ e S with
  | none => rfl
  | some p =>
    obtain ⟨x, S1⟩ := p
    simp only [andThen_some]
    cases x.pur <;> rfl
@[simp] theorem evI_rng1 {a : Ex} : evI C ρ (.rng1 a) S = andThen (evE C ρ a S) fun x S1 => withS (rng1D x.any) S1 := by simp only [evI]
@[simp] theorem evI_rng2 {a b : Ex} : evI C ρ (.rng2 a b) S = andThen (evE C ρ a S) fun x S1 => andThen (evE C ρ b S1) fun y S2 => withS (rng2D x.any y.any) S2 := by simp only [evI]
@[simp] theorem evI_rng3 {a b c : Ex} : evI C ρ (.rng3 a b c) S = andThen (evE C ρ a S) fun x S1 => andThen (evE C ρ b S1) fun y S2 => andThen (evE C ρ c S2) fun z S3 => withS (rng3D x.any y.any z.any) S3 := by simp only [evI]
def frzK (ρ : Env) (i : Nat) (S : Sto) : Option (Option R) → Option (Out × Sto)
  | some (some (.new d)) => some (.nx (ρ.set i (some (.val d))), S)
  | _ => some (.nx ρ, S)
@[simp] theorem frzK_new {i : Nat} {d : D} : frzK ρ i S (some (some (.new d))) = some (.nx (ρ.set i (some (.val d))), S) := rfl
@[simp] theorem frzK_val {i : Nat} {d : D} : frzK ρ i S (some (some (.val d))) = some (.nx ρ, S) := rfl
@[simp] theorem frzK_brw {i : Nat} {d : D} : frzK ρ i S (some (some (.brw d))) = some (.nx ρ, S) := rfl
@[simp] theorem frzK_no {i : Nat} : frzK ρ i S (some none) = some (.nx ρ, S) := rfl
@[simp] theorem frzK_none {i : Nat} : frzK ρ i S none = some (.nx ρ, S) := rfl
@[simp] theorem evS_frz {i : Nat} : evS C W ρ (.frz i) S = frzK ρ i S ρ[i]? := by
  simp only [evS]
  cases ρ[i]? with
  | none => rfl
  | some q =>
    cases q with
    | none => rfl
    | some r => cases r <;> rfl
def exK (ρ : Env) : Option (R × Sto) → Option (Out × Sto)
  | some (_, S) => some (.nx ρ, S)
  | none => none
@[simp] theorem exK_some {x : R} : exK ρ (some (x, S)) = some (.nx ρ, S) := rfl
@[simp] theorem evS_ex {e : Ex} : evS C W ρ (.ex e) S = exK ρ (evE C ρ e S) := by
  simp only [evS]
  cases evE C ρ e S with
  | none => rfl
  | some p => rfl
def newK (ρ : Env) (i : Nat) : Option (R × Sto) → Option (Out × Sto)
  | some (.new d, S) => some (.nx (ρ.set i (some (.val (.ref S.length)))), S ++ [d])
  | _ => none
@[simp] theorem newK_some {i : Nat} {d : D} : newK ρ i (some (.new d, S)) = some (.nx (ρ.set i (some (.val (.ref S.length)))), S ++ [d]) := rfl
@[simp] theorem evS_new {i : Nat} {e : Ex} : evS C W ρ (.new i e) S = newK ρ i (evE C ρ e S) := by
  simp only [evS]
  cases evE C ρ e S with
  | none => rfl
  | some p => obtain ⟨x, S1⟩ := p; cases x <;> rfl
def mutT (t : Option Tg) (r : D) (p : Env × Sto) : Option (Out × Sto) := match t with
  | none => some (.nx p.1, p.2)
  | some t => withS ((tgSet t (.val r) p.1).map .nx) p.2
def mutR (ρ : Env) (t : Option Tg) (S : Sto) (p : Pl) : Option (D × D) → Option (Out × Sto)
  | none => none
  | some (d', r) => mutT t r (plSet ρ S p d')
def mutD (ρ : Env) (t : Option Tg) (m : Mu) (ds : List D) (S : Sto) (p : Pl) : Option D → Option (Out × Sto)
  | none => none
  | some d => mutR ρ t S p (muD m d ds)
def mutP (ρ : Env) (t : Option Tg) (m : Mu) (ds : List D) (S : Sto) : Option Pl → Option (Out × Sto)
  | none => none
  | some p => mutD ρ t m ds S p (plGet ρ S p)
@[simp] theorem mutT_none {r : D} {p : Env × Sto} : mutT none r p = some (.nx p.1, p.2) := rfl
@[simp] theorem mutT_some {t : Tg} {r : D} {p : Env × Sto} : mutT (some t) r p = withS ((tgSet t (.val r) p.1).map .nx) p.2 := rfl
@[simp] theorem mutR_some {t : Option Tg} {p : Pl} {d r : D} : mutR ρ t S p (some (d, r)) = mutT t r (plSet ρ S p d) := rfl
@[simp] theorem mutD_some {t : Option Tg} {m : Mu} {ds : List D} {p : Pl} {d : D} : mutD ρ t m ds S p (some d) = mutR ρ t S p (muD m d ds) := rfl
@[simp] theorem mutP_some {t : Option Tg} {m : Mu} {ds : List D} {p : Pl} : mutP ρ t m ds S (some p) = mutD ρ t m ds S p (plGet ρ S p) := rfl
@[simp] theorem evS_mut {t : Option Tg} {m : Mu} {o : Ex} {es : Exs} : evS C W ρ (.mut t m o es) S = andThen (evE C ρ o S) fun x S1 => andThen (evM C ρ m es S1) fun ds S2 => mutP ρ t m ds S2 (plOf ρ o x) := by
  simp only [evS]
  cases evE C ρ o S with
  | none => rfl
  | some p =>
    obtain ⟨x, S1⟩ := p
    simp only [andThen_some]
    cases evM C ρ m es S1 with
    | none => rfl
    | some q =>
      obtain ⟨ds, S2⟩ := q
      simp only [andThen_some]
      cases plOf ρ o x with
      | none => rfl
      | some p =>
        simp only [mutP_some]
        cases plGet ρ S2 p with
        | none => rfl
        | some d =>
          simp only [mutD_some]
          cases muD m d ds with
          | none => rfl
          | some q => obtain ⟨d', r⟩ := q; cases t <;> rfl
def newD : Option (Option R) → Option D
  | some (some (.new d)) => some d
  | _ => none
@[simp] theorem newD_some {d : D} : newD (some (some (.new d))) = some d := rfl
@[simp] theorem plGet_slot {i : Nat} : plGet ρ S (.slot i) = newD ρ[i]? := by
  simp only [plGet]
  cases ρ[i]? with
  | none => rfl
  | some q =>
    cases q with
    | none => rfl
    | some r => cases r <;> rfl
@[simp] theorem plGet_cell {n : Nat} : plGet ρ S (.cell n) = S[n]? := rfl
@[simp] theorem plSet_slot {i : Nat} {d : D} : plSet ρ S (.slot i) d = (ρ.set i (some (.new d)), S) := rfl
@[simp] theorem plSet_cell {n : Nat} {d : D} : plSet ρ S (.cell n) d = (ρ, S.set n d) := rfl
@[simp] theorem plOf_brw {i : Nat} {d : D} : plOf ρ (.nm i) (.brw d) = some (.slot i) := rfl
@[simp] theorem plOf_ref {e : Ex} {n : Nat} : plOf ρ e (.val (.ref n)) = some (.cell n) := by cases e <;> rfl
def mArg (m : Mu) (S : Sto) (x : R) : Option (List D × Sto) := match m with
  | .extend => some ([look S x.any], S)
  | _ => withS (x.pur.map fun d => [d]) S
@[simp] theorem mArg_ext {x : R} : mArg .extend S x = some ([look S x.any], S) := rfl
@[simp] theorem mArg_app {x : R} : mArg .append S x = withS (x.pur.map fun d => [d]) S := rfl
@[simp] theorem evM_nil {m : Mu} : evM C ρ m .nil S = some ([], S) := by simp only [evM, evA_nil]
@[simp] theorem evM_one {m : Mu} {e : Ex} : evM C ρ m (.cons e .nil) S = andThen (evE C ρ e S) fun x S1 => mArg m S1 x := by
  simp only [evM]
  cases evE C ρ e S with
  | none => rfl
  | some p => obtain ⟨x, S1⟩ := p; cases m <;> cases x <;> rfl
theorem mu_app {xs : List D} {y : D} (h : xs.length < sizeLine) : muD .append (.lst xs) [y] = some (.lst (xs ++ [y]), .non) := by simp only [muD]; rw [if_pos h]
theorem mu_ext {xs ys : List D} (h : xs.length + ys.length ≤ sizeLine) : muD .extend (.lst xs) [.lst ys] = some (.lst (xs ++ ys), .non) := by simp only [muD]; rw [if_pos h]
@[simp] theorem mu_pop {xs : List D} {y : D} : muD .pop (.lst (xs ++ [y])) [] = some (.lst xs, y) := by simp [muD]
@[simp] theorem mu_pop1 {y : D} : muD .pop (.lst [y]) [] = some (.lst [], y) := by simp [muD]
@[simp] theorem mu_clear {xs : List D} : muD .clear (.lst xs) [] = some (.lst [], .non) := rfl
theorem call_rt {T : List Fn} {W n f : Nat} {F : Fn} {ds : List D} {S S' : Sto} {ρ : Env} {b : Sms} {r : R} (h : T[f]? = some F) (hl : ds.length = F.np) (hρ : ds.map (fun d => some (R.val d)) ++ List.replicate (F.nn - F.np) none = ρ) (hb : F.body = b)
    (he : evSs (callN T W n) W ρ b S = some (.rt r, S')) : callN T W (n + 1) f ds S = some (r, S') := by
  subst hρ hb
  rw [callN, h]
  simp only [hl, if_true, he, andThen_some]
theorem call_nx {T : List Fn} {W n f : Nat} {F : Fn} {ds : List D} {S S' : Sto} {ρ : Env} {b : Sms} (h : T[f]? = some F) (hl : ds.length = F.np) (hρ : ds.map (fun d => some (R.val d)) ++ List.replicate (F.nn - F.np) none = ρ) (hb : F.body = b)
    (he : ∃ ρ', evSs (callN T W n) W ρ b S = some (.nx ρ', S')) : callN T W (n + 1) f ds S = some (.val .non, S') := by
  subst hρ hb
  obtain ⟨ρ', he⟩ := he
  rw [callN, h]
  simp only [hl, if_true, he, andThen_some]
def lcStep (g : D → Env → Option Env) (t : Env → Sto → Option (Bool × Sto)) (f : Env → Sto → Option (R × Sto)) (ρ : Env) (x : D) (S : Sto) : Option (Option D × Sto) :=
  match g x ρ with
  | none => none
  | some ρ' => andThen (t ρ' S) fun b S1 => if b then andThen (f ρ' S1) fun r S2 => withS (r.pur.map some) S2 else some (none, S1)
theorem lc_cons {g : D → Env → Option Env} {t : Env → Sto → Option (Bool × Sto)} {f : Env → Sto → Option (R × Sto)} {ρ : Env} {x : D} {xs : List D} {S : Sto} :
    lcLoop g t f ρ (x :: xs) S = andThen (lcStep g t f ρ x S) fun d S1 => match d with
      | some d => andThen (lcLoop g t f ρ xs S1) fun ds S2 => some (d :: ds, S2)
      | none => lcLoop g t f ρ xs S1 := by
  simp only [lcLoop, lcStep]
  cases g x ρ with
  | none => rfl
  | some ρ' =>
    simp only []
    cases t ρ' S with
    | none => rfl
    | some p =>
      obtain ⟨b, S1⟩ := p
      simp only [andThen_some]
      cases b with
      | false => rfl
      | true =>
        simp only [if_true]
        cases f ρ' S1 with
        | none => rfl
        | some p =>
          obtain ⟨r, S2⟩ := p
          simp only [andThen_some]
          cases r.pur <;> rfl
theorem lc_mapS {α : Type} {g : D → Env → Option Env} {t : Env → Sto → Option (Bool × Sto)} {f : Env → Sto → Option (R × Sto)} {ρ : Env} {S : Sto} {e q : α → D} : ∀ {xs : List α},
    (∀ x ∈ xs, lcStep g t f ρ (e x) S = some (some (q x), S)) → lcLoop g t f ρ (xs.map e) S = some (xs.map q, S)
  | [], _ => by simp [lcLoop]
  | x :: xs, h => by
    have ih := lc_mapS (g := g) (t := t) (f := f) (ρ := ρ) (S := S) (q := q) (e := e) (xs := xs) fun y hy => h y (by simp [hy])
    rw [List.map_cons, lc_cons, h x (by simp)]
    simp [ih]
theorem lc_filS {α : Type} {g : D → Env → Option Env} {t : Env → Sto → Option (Bool × Sto)} {f : Env → Sto → Option (R × Sto)} {ρ : Env} {S : Sto} {p : α → Bool} {e q : α → D} : ∀ {xs : List α},
    (∀ x ∈ xs, lcStep g t f ρ (e x) S = some (if p x then some (q x) else none, S)) → lcLoop g t f ρ (xs.map e) S = some ((xs.filter p).map q, S)
  | [], _ => by simp [lcLoop]
  | x :: xs, h => by
    have ih := lc_filS (g := g) (t := t) (f := f) (ρ := ρ) (S := S) (p := p) (q := q) (e := e) (xs := xs) fun y hy => h y (by simp [hy])
    rw [List.map_cons, lc_cons, h x (by simp)]
    cases hp : p x <;> simp [ih, hp]
theorem lc_map {g : D → Env → Option Env} {t : Env → Sto → Option (Bool × Sto)} {f : Env → Sto → Option (R × Sto)} {ρ : Env} {S : Sto} {q : D → D} : ∀ {xs : List D},
    (∀ x ∈ xs, ∃ ρ' r, g x ρ = some ρ' ∧ t ρ' S = some (true, S) ∧ f ρ' S = some (r, S) ∧ r.pur = some (q x)) → lcLoop g t f ρ xs S = some (xs.map q, S)
  | [], _ => by simp [lcLoop]
  | x :: xs, h => by
    obtain ⟨ρ', r, h1, h2, h3, h4⟩ := h x (by simp)
    have ih := lc_map (g := g) (t := t) (f := f) (ρ := ρ) (S := S) (q := q) (xs := xs) fun y hy => h y (by simp [hy])
    simp [lcLoop, h1, h2, h3, h4, ih]
theorem lc_filter {g : D → Env → Option Env} {t : Env → Sto → Option (Bool × Sto)} {f : Env → Sto → Option (R × Sto)} {ρ : Env} {S : Sto} {p : D → Bool} {q : D → D} : ∀ {xs : List D},
    (∀ x ∈ xs, ∃ ρ' r, g x ρ = some ρ' ∧ t ρ' S = some (p x, S) ∧ (p x = true → f ρ' S = some (r, S) ∧ r.pur = some (q x))) → lcLoop g t f ρ xs S = some ((xs.filter p).map q, S)
  | [], _ => by simp [lcLoop]
  | x :: xs, h => by
    obtain ⟨ρ', r, h1, h2, h3⟩ := h x (by simp)
    have ih := lc_filter (g := g) (t := t) (f := f) (ρ := ρ) (S := S) (p := p) (q := q) (xs := xs) fun y hy => h y (by simp [hy])
    cases hp : p x with
    | true => obtain ⟨h3, h4⟩ := h3 hp; simp [lcLoop, h1, h2, h3, h4, ih, hp]
    | false => simp [lcLoop, h1, h2, ih, hp]
@[simp] theorem loopF_nil {g : D → Env → Option Env} {b : Env → Sto → Option (Out × Sto)} : loopF g b [] ρ S = some (.nx ρ, S) := rfl
theorem loopF_nx {g : D → Env → Option Env} {b : Env → Sto → Option (Out × Sto)} {x : D} {xs : List D} {ρ' ρ2 : Env} {S2 : Sto} (h : g x ρ = some ρ') (hb : b ρ' S = some (.nx ρ2, S2)) : loopF g b (x :: xs) ρ S = loopF g b xs ρ2 S2 := by
  simp [loopF, h, hb]
theorem loopW_t {t : Env → Sto → Option (Bool × Sto)} {b : Env → Sto → Option (Out × Sto)} {n : Nat} {S1 S2 : Sto} {ρ2 : Env} (h : t ρ S = some (true, S1)) (hb : b ρ S1 = some (.nx ρ2, S2)) : loopW t b (n + 1) ρ S = loopW t b n ρ2 S2 := by
  simp [loopW, h, hb]
theorem loopW_f {t : Env → Sto → Option (Bool × Sto)} {b : Env → Sto → Option (Out × Sto)} {n : Nat} {S1 : Sto} (h : t ρ S = some (false, S1)) : loopW t b (n + 1) ρ S = some (.nx ρ, S1) := by
  simp [loopW, h]
@[simp] theorem any_val {d : D} : (R.val d).any = d := rfl
@[simp] theorem any_new {d : D} : (R.new d).any = d := rfl
@[simp] theorem any_brw {d : D} : (R.brw d).any = d := rfl
@[simp] theorem pur_val {d : D} : (R.val d).pur = some d := rfl
@[simp] theorem pur_new {d : D} : (R.new d).pur = some d := rfl
@[simp] theorem pur_brw {d : D} : (R.brw d).pur = none := rfl
@[simp] theorem out_val {d : D} : (R.val d).out = .val d := rfl
@[simp] theorem out_new {d : D} : (R.new d).out = .new d := rfl
@[simp] theorem out_brw {d : D} : (R.brw d).out = .new d := rfl
@[simp] theorem bin_add {i j : Int} : binD .add (.int i) (.int j) = some (.val (.int (i + j))) := rfl
@[simp] theorem bin_sub {i j : Int} : binD .sub (.int i) (.int j) = some (.val (.int (i - j))) := rfl
theorem bin_mul {i j : Int} (h : i.natAbs < 2 ^ 64 ∨ j.natAbs < 2 ^ 64) : binD .mul (.int i) (.int j) = some (.val (.int (i * j))) := by simp only [binD]; rw [if_pos h]
theorem bin_mod {i j : Int} (h : 0 < j) : binD .mod (.int i) (.int j) = some (.val (.int (i % j))) := by simp only [binD]; rw [if_pos h]
theorem bin_fdv {i j : Int} (h : 0 < j ∧ j < 1073741824) : binD .fdv (.int i) (.int j) = some (.val (.int (i / j))) := by simp only [binD]; rw [if_pos h]
theorem bin_pow {i j : Int} (h : 0 ≤ j ∧ j ≤ 1000000 ∧ i.natAbs < 2 ^ 64) : binD .pow (.int i) (.int j) = some (.val (.int (i ^ j.toNat))) := by simp only [binD]; rw [if_pos h]
theorem bin_shr {i j : Int} (h : 0 ≤ j) : binD .shr (.int i) (.int j) = some (.val (.int (i / 2 ^ j.toNat))) := by simp only [binD]; rw [if_pos h]
theorem bin_str {x y : List Nat} (h : x.length + y.length ≤ sizeLine) : binD .add (.str x) (.str y) = some (.val (.str (x ++ y))) := by simp only [binD]; rw [if_pos h]
theorem bin_tup {x y : List D} (h : x.length + y.length ≤ sizeLine) : binD .add (.tup x) (.tup y) = some (.val (.tup (x ++ y))) := by simp only [binD]; rw [if_pos h]
theorem bin_lst {x y : List D} (h : x.length + y.length ≤ sizeLine) : binD .add (.lst x) (.lst y) = some (.new (.lst (x ++ y))) := by simp only [binD]; rw [if_pos h]
@[simp] theorem neg_int {i : Int} : negD (.int i) = some (.int (-i)) := rfl
@[simp] theorem cmp_lt {i j : Int} : cmpD .lt (.int i) (.int j) = some (decide (i < j)) := rfl
@[simp] theorem cmp_le {i j : Int} : cmpD .le (.int i) (.int j) = some (decide (i ≤ j)) := rfl
@[simp] theorem cmp_gt {i j : Int} : cmpD .gt (.int i) (.int j) = some (decide (j < i)) := rfl
@[simp] theorem cmp_ge {i j : Int} : cmpD .ge (.int i) (.int j) = some (decide (j ≤ i)) := rfl
@[simp] theorem cmp_is {d : D} : cmpD .is d .non = some (isNon d) := by cases d <;> rfl
@[simp] theorem cmp_isn {d : D} : cmpD .isn d .non = some (!isNon d) := by cases d <;> rfl
theorem cmp_eq {a b : D} (h : okD 64 a = true) (h' : okD 64 b = true) : cmpD .eq a b = some (eqD a b) := by simp only [cmpD, h, h', Bool.and_self, if_true]
theorem cmp_ne {a b : D} (h : okD 64 a = true) (h' : okD 64 b = true) : cmpD .ne a b = some (!eqD a b) := by simp only [cmpD, h, h', Bool.and_self, if_true]
def okS (x : List Nat) : Bool := x.all fun c => decide (c < 0x110000)
theorem cmp_eqS {x y : List Nat} (h : okS x = true) (h' : okS y = true) : cmpD .eq (.str x) (.str y) = some (x == y) := by
  rw [cmp_eq (by simpa [okD, okS] using h) (by simpa [okD, okS] using h')]; simp [eqD]
theorem cmp_neS {x y : List Nat} (h : okS x = true) (h' : okS y = true) : cmpD .ne (.str x) (.str y) = some (!(x == y)) := by
  rw [cmp_ne (by simpa [okD, okS] using h) (by simpa [okD, okS] using h')]; simp [eqD]
@[simp] theorem eqD_str {x y : List Nat} : eqD (.str x) (.str y) = (x == y) := by simp only [eqD]
@[simp] theorem eqD_int {x y : Int} : eqD (.int x) (.int y) = (x == y) := by simp only [eqD]
@[simp] theorem eqD_bl {x y : Bool} : eqD (.bl x) (.bl y) = (x == y) := by simp only [eqD]
@[simp] theorem eqD_tup {x y : List D} : eqD (.tup x) (.tup y) = eqDs x y := by simp only [eqD]
@[simp] theorem eqD_lst {x y : List D} : eqD (.lst x) (.lst y) = eqDs x y := by simp only [eqD]
@[simp] theorem eqD_st {x : List Nat} {y : List D} : eqD (.str x) (.tup y) = false := by simp only [eqD]
@[simp] theorem eqD_ts {x : List Nat} {y : List D} : eqD (.tup y) (.str x) = false := by simp only [eqD]
@[simp] theorem eqD_nn : eqD .non .non = true := by simp only [eqD]
@[simp] theorem eqD_ni {x : Int} : eqD .non (.int x) = false := by simp only [eqD]
@[simp] theorem eqD_in {x : Int} : eqD (.int x) .non = false := by simp only [eqD]
@[simp] theorem eqDs_nil : eqDs [] [] = true := by simp only [eqDs]
@[simp] theorem eqDs_cons {x y : D} {xs ys : List D} : eqDs (x :: xs) (y :: ys) = (eqD x y && eqDs xs ys) := by simp only [eqDs]
@[simp] theorem eqDs_nc {y : D} {ys : List D} : eqDs [] (y :: ys) = false := by simp only [eqDs]
@[simp] theorem eqDs_cn {y : D} {ys : List D} : eqDs (y :: ys) [] = false := by simp only [eqDs]
@[simp] theorem flat_str {x : List Nat} : flatD (.str x) = true := rfl
@[simp] theorem flat_int {x : Int} : flatD (.int x) = true := rfl
@[simp] theorem flat_bl {x : Bool} : flatD (.bl x) = true := rfl
@[simp] theorem flat_non : flatD .non = true := rfl
theorem in_tup {x : D} {ys : List D} (h : flatD x = true) (h' : ys.all flatD = true) : inD x (.tup ys) = some (ys.any fun y => eqD y x) := by
  cases x <;> simp only [inD, h, h', Bool.and_self, if_true]
@[simp] theorem in_s1 {x a : List Nat} : inD (.str x) (.tup [.str a]) = some (a == x) := by rw [in_tup rfl rfl]; simp
@[simp] theorem in_s2 {x a b : List Nat} : inD (.str x) (.tup [.str a, .str b]) = some (a == x || b == x) := by rw [in_tup rfl rfl]; simp
@[simp] theorem in_s3 {x a b c : List Nat} : inD (.str x) (.tup [.str a, .str b, .str c]) = some (a == x || (b == x || c == x)) := by rw [in_tup rfl rfl]; simp
@[simp] theorem in_s4 {x a b c d : List Nat} : inD (.str x) (.tup [.str a, .str b, .str c, .str d]) = some (a == x || (b == x || (c == x || d == x))) := by rw [in_tup rfl rfl]; simp
@[simp] theorem in_s5 {x a b c d e : List Nat} : inD (.str x) (.tup [.str a, .str b, .str c, .str d, .str e]) = some (a == x || (b == x || (c == x || (d == x || e == x)))) := by rw [in_tup rfl rfl]; simp
@[simp] theorem cmp_eqI {i j : Int} : cmpD .eq (.int i) (.int j) = some (i == j) := by simp [cmpD, okD, eqD]
@[simp] theorem cmp_neI {i j : Int} : cmpD .ne (.int i) (.int j) = some (!(i == j)) := by simp [cmpD, okD, eqD]
@[simp] theorem cmp_inn {a b : D} : cmpD .inn a b = inD a b := by cases a <;> cases b <;> rfl
@[simp] theorem cmp_nin {a b : D} : cmpD .nin a b = (inD a b).map (!·) := by cases a <;> cases b <;> rfl
@[simp] theorem tru_bl {b : Bool} : truD (.bl b) = some b := rfl
@[simp] theorem tru_int {i : Int} : truD (.int i) = some (i != 0) := rfl
@[simp] theorem tru_non : truD .non = some false := rfl
@[simp] theorem tru_lst {xs : List D} : truD (.lst xs) = some (!xs.isEmpty) := rfl
@[simp] theorem tru_tup {xs : List D} : truD (.tup xs) = some (!xs.isEmpty) := rfl
@[simp] theorem ix_tup {xs : List D} {i : Int} : ixD (.tup xs) (.int i) = L2.atI xs i := rfl
@[simp] theorem ix_lst {xs : List D} {i : Int} : ixD (.lst xs) (.int i) = L2.atI xs i := rfl
@[simp] theorem ix_fz {xs : List D} {i : Int} : ixD (.fz xs) (.int i) = L2.atI xs i := rfl
@[simp] theorem sl_tup {xs : List D} {l h : Option Int} : slD (.tup xs) l h = some (.val (.tup (cut xs l h))) := rfl
@[simp] theorem sl_lst {xs : List D} {l h : Option Int} : slD (.lst xs) l h = some (.new (.lst (cut xs l h))) := rfl
@[simp] theorem bi_len_t {xs : List D} : biD .len (.tup xs) = some (.val (.int xs.length)) := rfl
@[simp] theorem bi_len_l {xs : List D} : biD .len (.lst xs) = some (.val (.int xs.length)) := rfl
@[simp] theorem bi_len_f {xs : List D} : biD .len (.fz xs) = some (.val (.int xs.length)) := rfl
theorem bi_len_s {x : List Nat} (h : x.length ≤ sizeLine) : biD .len (.str x) = some (.val (.int x.length)) := by simp only [biD]; rw [if_pos h]
@[simp] theorem bi_tup_l {xs : List D} : biD .tuple (.lst xs) = some (.val (.tup xs)) := rfl
@[simp] theorem bi_tup_t {xs : List D} : biD .tuple (.tup xs) = some (.val (.tup xs)) := rfl
@[simp] theorem bi_lst_l {xs : List D} : biD .list (.lst xs) = some (.new (.lst xs)) := rfl
@[simp] theorem bi_lst_t {xs : List D} : biD .list (.tup xs) = some (.new (.lst xs)) := rfl
@[simp] theorem it_lst {xs : List D} : itemsOf (.lst xs) = some xs := rfl
@[simp] theorem it_tup {xs : List D} : itemsOf (.tup xs) = some xs := rfl
@[simp] theorem tg_v {i : Nat} {d : D} : tgSet (.nm i) (.val d) ρ = some (ρ.set i (some (.val d))) := rfl
@[simp] theorem tg_n {i : Nat} {d : D} : tgSet (.nm i) (.new d) ρ = some (ρ.set i (some (.new d))) := rfl
@[simp] theorem tgF_v {i : Nat} {d : D} : tgF (.nm i) d ρ = some (ρ.set i (some (.val d))) := rfl
theorem look_ref {S : Sto} {c : Nat} {d : D} (h : S[c]? = some d) : look S (.ref c) = d := by
  show S.getD c .non = d
  rw [List.getD_eq_getElem?_getD, h]; rfl
theorem small_le {n : Nat} (h : n ≤ 1000) : n ≤ sizeLine := Nat.le_trans h (by decide)
end Ds
namespace Ds
open PySem
def fCell : Fn := ⟨2, 2, .cons (.iff (.cmp .gt (.bi .len (.nm 0)) (.lit (.int 0))) (.cons (.ret (.ix (.nm 0) (.bin .mod (.nm 1) (.bi .len (.nm 0))))) .nil) .nil) (.cons (.ret (.lit (.int 0))) .nil)⟩
def fBy (c : Nat) : Fn := ⟨3, 6, (.cons (.asg (.nm 3) (.call c (.cons (.nm 0) (.cons (.nm 1) .nil)))) (.cons (.asg (.nm 4) (.lit (.int 0))) (.cons (.iff (.cmp .ge (.nm 3) (.bin .pow (.lit (.int 10)) (.lit (.int 18)))) (.cons (.asg (.nm 4) (.bin .shr (.nm 3) (.bin .mul (.lit (.int 20)) (.bin .fdv (.nm 1) (.bi .len (.nm 0)))))) .nil) .nil) (.cons (.iff (.cmp .gt (.nm 4) (.lit (.int 0))) (.cons (.ret (.bin .mod (.nm 4) (.nm 2))) .nil) .nil) (.cons (.asg (.nm 5) (.bin .add (.bin .add (.bin .mod (.nm 3) (.lit (.int 1000003))) (.bin .mul (.bin .mul (.lit (.int 31)) (.nm 1)) (.nm 1))) (.lit (.int 1)))) (.cons (.ret (.bin .mod (.bin .mod (.bin .mul (.bin .mod (.bin .mul (.nm 5) (.lit (.int 48271))) (.lit (.int 999983))) (.lit (.int 7919))) (.lit (.int 524287))) (.nm 2))) .nil))))))⟩
def fNext (b : Nat) : Fn := ⟨2, 2, (.cons (.six (.nm 0) (.lit (.int 1)) (.bin .add (.ix (.nm 0) (.lit (.int 1))) (.lit (.int 1)))) (.cons (.ret (.call b (.cons (.ix (.nm 0) (.lit (.int 0))) (.cons (.ix (.nm 0) (.lit (.int 1))) (.cons (.nm 1) .nil))))) .nil))⟩
def cellOf (ns : List Int) (k : Int) : Int := if 0 < ns.length then (ns[(k % (ns.length : Int)).toNat]?).getD 0 else 0
def partOf (ns : List Int) (k : Int) : Int := if 1000000000000000000 ≤ cellOf ns k then cellOf ns k / 2 ^ (20 * (k / (ns.length : Int))).toNat else 0
def drw (ns : List Int) (k m : Int) : Int := if 0 < partOf ns k then partOf ns k % m else (cellOf ns k % 1000003 + 31 * k * k + 1) * 48271 % 999983 * 7919 % 524287 % m
theorem drw_lo (ns : List Int) (k : Int) {m : Int} (h : 0 < m) : 0 ≤ drw ns k m := by
  unfold drw
  split <;> exact Int.emod_nonneg _ (by omega)
theorem drw_hi (ns : List Int) (k : Int) {m : Int} (h : 0 < m) : drw ns k m < m := by
  unfold drw
  split <;> exact Int.emod_lt_of_pos _ h
variable {T : List Fn} {W : Nat} {S : Sto}
theorem cell_ok {ic n : Nat} {ns : List Int} {k : Int} (h : T[ic]? = some fCell) (hk : 0 ≤ k) : callN T W (n + 1) ic [.fz (ns.map .int), .int k] S = some (.val (.int (cellOf ns k)), S) := by
  simp only [callN, h]
  by_cases hl : 0 < ns.length
  · have hm : 0 ≤ k % (ns.length : Int) := Int.emod_nonneg _ (by omega)
    have hm2 : k % (ns.length : Int) < ns.length := Int.emod_lt_of_pos _ (by omega)
    obtain ⟨j, hj⟩ : ∃ j : Nat, k % (ns.length : Int) = j := ⟨(k % (ns.length : Int)).toNat, by omega⟩
    have hjl : j < ns.length := by omega
    simp [fCell, hl, bin_mod, hj, atI_nat', cellOf, hjl]
  · have : ns.length = 0 := by omega
    simp [fCell, this, cellOf]
theorem by_ok {ic ib n : Nat} {ns : List Int} {k m : Int} (h1 : T[ic]? = some fCell) (h2 : T[ib]? = some (fBy ic)) (hk : 0 ≤ k) (hm : 0 < m) (hk2 : k < 1000000000) (hl : ns.length ≤ 63) :
    callN T W (n + 2) ib [.fz (ns.map .int), .int k, .int m] S = some (.val (.int (drw ns k m)), S) := by
  have hc : ∀ S, callN T W (n + 1) ic [.fz (ns.map .int), .int k] S = some (.val (.int (cellOf ns k)), S) := fun S => cell_ok h1 hk
  have p18 : binD .pow (.int 10) (.int 18) = some (.val (.int 1000000000000000000)) := by
    rw [bin_pow ⟨by decide, by decide, by decide⟩]; rfl
  have m1 : binD .mul (.int 31) (.int k) = some (.val (.int (31 * k))) := bin_mul (.inl (by decide))
  have m2 : binD .mul (.int (31 * k)) (.int k) = some (.val (.int (31 * k * k))) := bin_mul (.inl (by omega))
  have m3 : ∀ i, binD .mul (.int i) (.int 48271) = some (.val (.int (i * 48271))) := fun i => bin_mul (.inr (by decide))
  have m4 : ∀ i, binD .mul (.int i) (.int 7919) = some (.val (.int (i * 7919))) := fun i => bin_mul (.inr (by decide))
  have m5 : ∀ i, binD .mul (.int 20) (.int i) = some (.val (.int (20 * i))) := fun i => bin_mul (.inl (by decide))
  rw [callN, h2]
  by_cases hcl : 1000000000000000000 ≤ cellOf ns k
  · have hlen : 0 < ns.length := by
      by_cases q : 0 < ns.length
      · exact q
      · unfold cellOf at hcl; rw [if_neg q] at hcl; omega
    have hq : 0 ≤ k / (ns.length : Int) := Int.ediv_nonneg hk (by omega)
    have f1 : binD .fdv (.int k) (.int (ns.length : Int)) = some (.val (.int (k / (ns.length : Int)))) := bin_fdv ⟨by omega, by omega⟩
    have s1 : binD .shr (.int (cellOf ns k)) (.int (20 * (k / (ns.length : Int)))) = some (.val (.int (partOf ns k))) := by
      rw [bin_shr (by omega)]; unfold partOf; rw [if_pos hcl]
    by_cases hp : 0 < partOf ns k
    · simp [fBy, hc, p18, hcl, m5, f1, s1, hp, bin_mod, hm, drw]
    · simp [fBy, hc, p18, hcl, m5, f1, s1, hp, bin_mod, hm, drw, m1, m2, m3, m4]
  · have e : partOf ns k = 0 := by unfold partOf; rw [if_neg hcl]
    simp [fBy, hc, p18, hcl, bin_mod, hm, drw, m1, m2, m3, m4, e]
def tape (ns : List Int) (k : Int) : D := .lst [.fz (ns.map .int), .int k]
theorem tape_0 {ns : List Int} {k : Int} : ixD (tape ns k) (.int 0) = some (.fz (ns.map .int)) := by simp [tape]
theorem tape_1 {ns : List Int} {k : Int} : ixD (tape ns k) (.int 1) = some (.int k) := by simp [tape]
theorem next_ok {ic ib ix n c : Nat} {ns : List Int} {k m : Int} (h1 : T[ic]? = some fCell) (h2 : T[ib]? = some (fBy ic)) (h3 : T[ix]? = some (fNext ib)) (hS : S[c]? = some (tape ns k)) (hk : 0 ≤ k) (hm : 0 < m) (hk2 : k + 1 < 1000000000) (hl : ns.length ≤ 63) :
    callN T W (n + 3) ix [.ref c, .int m] S = some (.val (.int (drw ns (k + 1) m)), S.set c (tape ns (k + 1))) := by
  have hb : ∀ S, callN T W (n + 2) ib [.fz (ns.map .int), .int (k + 1), .int m] S = some (.val (.int (drw ns (k + 1) m)), S) := fun S => by_ok h1 h2 (by omega) hm (by omega) hl
  have hcl : c < S.length := by
    rcases Nat.lt_or_ge c S.length with q | q
    · exact q
    · rw [List.getElem?_eq_none q] at hS; cases hS
  have lk : look S (.ref c) = tape ns k := look_ref hS
  have hS2 : (S.set c (tape ns (k + 1)))[c]? = some (tape ns (k + 1)) := List.getElem?_set_self hcl
  have lk2 : look (S.set c (tape ns (k + 1))) (.ref c) = tape ns (k + 1) := look_ref hS2
  rw [callN, h3]
  have six : evS (callN T W (n + 2)) W [some (.val (.ref c)), some (.val (.int m))] (.six (.nm 0) (.lit (.int 1)) (.bin .add (.ix (.nm 0) (.lit (.int 1))) (.lit (.int 1)))) S = some (.nx [some (.val (.ref c)), some (.val (.int m))], S.set c (tape ns (k + 1))) := by
    simp [evS, lk, tape, plOf, plGet, hS, muD, plSet]
  simp [fNext, six, lk2, tape_0, tape_1, hb]
def tst (S : Sto) (c : Nat) (ns : List Int) (k : Int) : Sto := S.set c (tape ns k)
theorem next_st {ic ib ix n c : Nat} {ns : List Int} {k m : Int} (h1 : T[ic]? = some fCell) (h2 : T[ib]? = some (fBy ic)) (h3 : T[ix]? = some (fNext ib)) (hc : c < S.length) (hk : 0 ≤ k) (hm : 0 < m) (hk2 : k + 1 < 1000000000) (hl : ns.length ≤ 63) :
    ∃ r : Nat, (r : Int) < m ∧ callN T W (n + 3) ix [.ref c, .int m] (tst S c ns k) = some (.val (.int r), tst S c ns (k + 1)) := by
  refine ⟨(drw ns (k + 1) m).toNat, ?_, ?_⟩
  · have := drw_lo ns (k + 1) hm; have := drw_hi ns (k + 1) hm; omega
  · rw [next_ok (ns := ns) (k := k) h1 h2 h3 (by unfold tst; exact List.getElem?_set_self hc) hk hm hk2 hl]
    have := drw_lo ns (k + 1) hm
    rw [show ((drw ns (k + 1) m).toNat : Int) = drw ns (k + 1) m by omega]
    unfold tst
    rw [List.set_set]
end Ds
namespace K09
open PySem L2 Ds
def topS (i : Nat) : Stmt := PySem.Challenge.pw_worldsay_k09_signs.main.body.getD i (.Pass ⟨0, 0, 0, 0⟩)
def cs : List (Str × D) := []
def bl : List Str := ["bool", "isinstance", "len", "range"]
def b_parts_of : Sms := (.cons (.iff (.or (.cmp .eq (.ix (.nm 0) (.lit (.int 0))) (.lit (.str [102, 97, 99, 116]))) (.cmp .eq (.ix (.nm 0) (.lit (.int 0))) (.lit (.str [119, 105, 115, 104])))) (.cons (.ret (.tup .nil)) .nil) .nil) (.cons (.iff (.cmp .inn (.ix (.nm 0) (.lit (.int 0))) (.tup (.cons (.lit (.str [110, 111, 116])) (.cons (.lit (.str [97, 110, 100])) (.cons (.lit (.str [111, 114])) .nil))))) (.cons (.ret (.sl (.nm 0) (.yes (.lit (.int 1))) .no)) .nil) .nil) (.cons (.ret (.sl (.nm 0) (.yes (.lit (.int 2))) .no)) .nil)))
def p_parts_of : PFn := { name := "parts_of", st := topS 1, N := ["sentence"], ps := ["sentence"], body := b_parts_of, fz := [], nw := [] }
def b_rows_of : Sms := (.cons (.asg (.nm 1) (.lst .nil)) (.cons (.asg (.nm 2) (.lst (.cons (.tup (.cons (.nm 0) (.cons (.lit .non) (.cons (.lit (.int 0)) .nil)))) .nil))) (.cons (.whl (.cmp .gt (.bi .len (.nm 2)) (.lit (.int 0))) (.cons (.mut (some (.tup [3, 4, 5])) .pop (.nm 2) .nil) (.cons (.asg (.nm 6) (.bi .len (.nm 1))) (.cons (.mut none .append (.nm 1) (.cons (.tup (.cons (.nm 3) (.cons (.nm 4) (.cons (.nm 5) .nil)))) .nil)) (.cons (.asg (.nm 7) (.call 0 (.cons (.nm 3) .nil))) (.cons (.fr (.nm 8) (.rng3 (.bin .sub (.bi .len (.nm 7)) (.lit (.int 1))) (.neg (.lit (.int 1))) (.neg (.lit (.int 1)))) (.cons (.frz 6) (.cons (.mut none .append (.nm 2) (.cons (.tup (.cons (.ix (.nm 7) (.nm 8)) (.cons (.nm 6) (.cons (.nm 8) .nil)))) .nil)) .nil))) .nil)))))) (.cons (.ret (.nm 1)) .nil))))
def p_rows_of : PFn := { name := "rows_of", st := topS 3, N := ["sentence", "found", "waiting", "one", "above", "which", "number", "parts", "k"], ps := ["sentence"], body := b_rows_of, fz := [(18, [6])], nw := [] }
def b_sign_at : Sms := (.cons (.asg (.nm 4) (.call 1 (.cons (.nm 0) .nil))) (.cons (.asg (.nm 5) (.ix (.ix (.nm 4) (.nm 2)) (.lit (.int 1)))) (.cons (.whl (.cmp .ne (.nm 5) (.nm 1)) (.cons (.iff (.cmp .eq (.ix (.ix (.ix (.nm 4) (.nm 5)) (.lit (.int 0))) (.lit (.int 0))) (.lit (.str [110, 111, 116]))) (.cons (.asg (.nm 3) (.not (.nm 3))) .nil) .nil) (.cons (.asg (.nm 5) (.ix (.ix (.nm 4) (.nm 5)) (.lit (.int 1)))) .nil))) (.cons (.ret (.nm 3)) .nil))))
def p_sign_at : PFn := { name := "sign_at", st := topS 4, N := ["sentence", "binder", "number", "truth", "rows", "above"], ps := ["sentence", "binder", "number", "truth"], body := b_sign_at, fz := [], nw := [] }
def b_l_cell_at : Sms := (.cons (.iff (.cmp .gt (.bi .len (.nm 0)) (.lit (.int 0))) (.cons (.ret (.ix (.nm 0) (.bin .mod (.nm 1) (.bi .len (.nm 0))))) .nil) .nil) (.cons (.ret (.lit (.int 0))) .nil))
def p_l_cell_at : PFn := { name := "_law_cell_at", st := topS 6, N := ["_law_script", "_law_k"], ps := ["_law_script", "_law_k"], body := b_l_cell_at, fz := [], nw := [] }
def b_l_by : Sms := (.cons (.asg (.nm 3) (.call 3 (.cons (.nm 0) (.cons (.nm 1) .nil)))) (.cons (.asg (.nm 4) (.lit (.int 0))) (.cons (.iff (.cmp .ge (.nm 3) (.bin .pow (.lit (.int 10)) (.lit (.int 18)))) (.cons (.asg (.nm 4) (.bin .shr (.nm 3) (.bin .mul (.lit (.int 20)) (.bin .fdv (.nm 1) (.bi .len (.nm 0)))))) .nil) .nil) (.cons (.iff (.cmp .gt (.nm 4) (.lit (.int 0))) (.cons (.ret (.bin .mod (.nm 4) (.nm 2))) .nil) .nil) (.cons (.asg (.nm 5) (.bin .add (.bin .add (.bin .mod (.nm 3) (.lit (.int 1000003))) (.bin .mul (.bin .mul (.lit (.int 31)) (.nm 1)) (.nm 1))) (.lit (.int 1)))) (.cons (.ret (.bin .mod (.bin .mod (.bin .mul (.bin .mod (.bin .mul (.nm 5) (.lit (.int 48271))) (.lit (.int 999983))) (.lit (.int 7919))) (.lit (.int 524287))) (.nm 2))) .nil))))))
def p_l_by : PFn := { name := "_law_by", st := topS 7, N := ["_law_script", "_law_k", "_law_many", "_law_cell", "_law_part", "_law_seed"], ps := ["_law_script", "_law_k", "_law_many"], body := b_l_by, fz := [], nw := [] }
def b_l_next : Sms := (.cons (.six (.nm 0) (.lit (.int 1)) (.bin .add (.ix (.nm 0) (.lit (.int 1))) (.lit (.int 1)))) (.cons (.ret (.call 4 (.cons (.ix (.nm 0) (.lit (.int 0))) (.cons (.ix (.nm 0) (.lit (.int 1))) (.cons (.nm 1) .nil))))) .nil))
def p_l_next : PFn := { name := "_law_next", st := topS 8, N := ["_law_tape", "_law_many"], ps := ["_law_tape", "_law_many"], body := b_l_next, fz := [], nw := [] }
def b_l_hands : Sms := (.cons (.asg (.nm 1) (.lst (.cons (.tup (.cons (.lit (.str [97])) .nil)) (.cons (.tup (.cons (.lit (.str [97, 98])) .nil)) (.cons (.tup (.cons (.lit (.str [98])) .nil)) (.cons (.tup (.cons (.lit (.str [97])) (.cons (.lit (.str [98])) .nil))) (.cons (.tup (.cons (.lit (.str [97])) (.cons (.lit (.str [97, 98])) .nil))) (.cons (.tup (.cons (.lit (.str [97])) (.cons (.lit (.str [97, 98])) (.cons (.lit (.str [98])) .nil)))) (.cons (.tup (.cons (.lit (.str [97, 98])) (.cons (.lit (.str [98])) .nil))) (.cons (.tup (.cons (.lit (.str [97])) (.cons (.lit (.str [122, 122])) .nil))) .nil)))))))))) (.cons (.ret (.ix (.nm 1) (.call 5 (.cons (.nm 0) (.cons (.lit (.int 8)) .nil))))) .nil))
def p_l_hands : PFn := { name := "_law_hands", st := topS 9, N := ["_law_tape", "_law_some"], ps := ["_law_tape"], body := b_l_hands, fz := [], nw := [] }
def b_l_step : Sms := (.cons (.asg (.nm 1) (.call 5 (.cons (.nm 0) (.cons (.lit (.int 6)) .nil)))) (.cons (.iff (.cmp .lt (.nm 1) (.lit (.int 2))) (.cons (.ret (.tup (.cons (.lit (.str [111, 110])) .nil))) .nil) .nil) (.cons (.iff (.cmp .eq (.nm 1) (.lit (.int 2))) (.cons (.ret (.tup (.cons (.lit (.str [98, 97, 99, 107])) .nil))) .nil) .nil) (.cons (.ret (.tup (.cons (.ix (.lst (.cons (.lit (.str [111, 110, 101])) (.cons (.lit (.str [111, 110, 101])) (.cons (.lit (.str [112, 111, 111, 108])) .nil)))) (.bin .sub (.nm 1) (.lit (.int 3)))) (.cons (.call 6 (.cons (.nm 0) .nil)) .nil)))) .nil))))
def p_l_step : PFn := { name := "_law_step", st := topS 10, N := ["_law_tape", "_law_way"], ps := ["_law_tape"], body := b_l_step, fz := [], nw := [] }
def b_l_leaf : Sms := (.cons (.asg (.nm 2) (.lc (.nm 3) [3, 4] (.tup [3, 4]) (.seq (.nm 1)) (.yes (.not (.nm 4))))) (.cons (.iff (.and (.cmp .ne (.nm 2) (.lst .nil)) (.cmp .gt (.call 5 (.cons (.nm 0) (.cons (.lit (.int 3)) .nil))) (.lit (.int 0)))) (.cons (.ret (.tup (.cons (.lit (.str [119, 105, 115, 104])) (.cons (.ix (.nm 2) (.call 5 (.cons (.nm 0) (.cons (.bi .len (.nm 2)) .nil)))) .nil)))) .nil) .nil) (.cons (.ret (.tup (.cons (.lit (.str [102, 97, 99, 116])) (.cons (.ix (.lst (.cons (.lit (.str [112])) (.cons (.lit (.str [112, 113])) (.cons (.lit (.str [113])) (.cons (.lit (.str [122, 122])) .nil))))) (.call 5 (.cons (.nm 0) (.cons (.lit (.int 4)) .nil)))) .nil)))) .nil)))
def p_l_leaf : PFn := { name := "_law_leaf", st := topS 11, N := ["_law_tape", "_law_free", "_law_some", "_law_name", "_law_odd"], ps := ["_law_tape", "_law_free"], body := b_l_leaf, fz := [], nw := [] }
def b_l_sentence : Sms := (.cons (.asg (.nm 5) (.call 5 (.cons (.nm 0) (.cons (.lit (.int 12)) .nil)))) (.cons (.iff (.or (.cmp .lt (.nm 1) (.lit (.int 2))) (.cmp .eq (.nm 5) (.lit (.int 0)))) (.cons (.ret (.call 8 (.cons (.nm 0) (.cons (.nm 2) .nil)))) .nil) .nil) (.cons (.iff (.cmp .eq (.nm 5) (.lit (.int 1))) (.cons (.frz 6) (.cons (.asg (.nm 7) (.lc (.tup (.cons (.nm 6) (.cons (.not (.nm 13)) .nil))) [6, 13] (.tup [6, 13]) (.seq (.nm 2)) .no)) (.cons (.frz 7) (.cons (.ret (.tup (.cons (.lit (.str [110, 111, 116])) (.cons (.call 9 (.cons (.nm 0) (.cons (.bin .sub (.nm 1) (.lit (.int 1))) (.cons (.nm 7) (.cons (.nm 3) (.cons (.nm 4) .nil)))))) .nil)))) .nil)))) .nil) (.cons (.iff (.or (.cmp .lt (.nm 5) (.lit (.int 5))) (.cmp .lt (.nm 1) (.lit (.int 3)))) (.cons (.asg (.nm 8) (.ix (.lst (.cons (.lit (.str [115, 111, 109, 101])) (.cons (.lit (.str [101, 118, 101, 114, 121])) .nil))) (.call 5 (.cons (.nm 0) (.cons (.lit (.int 2)) .nil))))) (.cons (.frz 8) (.cons (.ret (.tup (.cons (.nm 8) (.cons (.call 7 (.cons (.nm 0) .nil)) (.cons (.call 9 (.cons (.nm 0) (.cons (.bin .sub (.nm 1) (.lit (.int 1))) (.cons (.nm 2) (.cons (.nm 3) (.cons (.nm 4) .nil)))))) .nil))))) .nil))) .nil) (.cons (.iff (.and (.cmp .lt (.nm 5) (.lit (.int 8))) (.cmp .lt (.nm 3) (.lit (.int 3)))) (.cons (.asg (.nm 6) (.ix (.ix (.lst (.cons (.lst (.cons (.lit (.str [120])) (.cons (.lit (.str [120, 121])) (.cons (.lit (.str [121])) .nil)))) (.cons (.lst (.cons (.lit (.str [112])) (.cons (.lit (.str [112, 113])) (.cons (.lit (.str [113])) .nil)))) .nil))) (.call 5 (.cons (.nm 0) (.cons (.lit (.int 2)) .nil)))) (.nm 3))) (.cons (.frz 6) (.cons (.asg (.nm 9) (.call 9 (.cons (.nm 0) (.cons (.bin .sub (.nm 1) (.lit (.int 1))) (.cons (.bin .add (.nm 2) (.lst (.cons (.tup (.cons (.nm 6) (.cons (.lit (.bl false)) .nil))) .nil))) (.cons (.bin .add (.nm 3) (.lit (.int 1))) (.cons (.nm 4) .nil))))))) (.cons (.frz 6) (.cons (.frz 9) (.cons (.ret (.tup (.cons (.ix (.lst (.cons (.lit (.str [108, 101, 97, 115, 116])) (.cons (.lit (.str [109, 111, 115, 116])) .nil))) (.call 5 (.cons (.nm 0) (.cons (.lit (.int 2)) .nil)))) (.cons (.nm 6) (.cons (.nm 9) .nil))))) .nil)))))) .nil) (.cons (.asg (.nm 10) (.bin .add (.lit (.int 1)) (.call 5 (.cons (.nm 0) (.cons (.bin .sub (.nm 1) (.lit (.int 2))) .nil))))) (.cons (.iff (.and (.cmp .eq (.nm 5) (.lit (.int 8))) (.cmp .lt (.nm 4) (.lit (.int 2)))) (.cons (.frz 10) (.cons (.asg (.nm 11) (.call 9 (.cons (.nm 0) (.cons (.nm 10) (.cons (.lst .nil) (.cons (.nm 3) (.cons (.bin .add (.nm 4) (.lit (.int 1))) .nil))))))) (.cons (.frz 11) (.cons (.ret (.tup (.cons (.lit (.str [115, 104, 111, 119])) (.cons (.call 6 (.cons (.nm 0) .nil)) (.cons (.nm 11) (.cons (.call 9 (.cons (.nm 0) (.cons (.bin .sub (.bin .sub (.nm 1) (.lit (.int 1))) (.nm 10)) (.cons (.lst .nil) (.cons (.nm 3) (.cons (.bin .add (.nm 4) (.lit (.int 1))) .nil)))))) .nil)))))) .nil)))) .nil) (.cons (.frz 10) (.cons (.asg (.nm 12) (.call 9 (.cons (.nm 0) (.cons (.nm 10) (.cons (.nm 2) (.cons (.nm 3) (.cons (.nm 4) .nil))))))) (.cons (.frz 12) (.cons (.ret (.tup (.cons (.ix (.lst (.cons (.lit (.str [97, 110, 100])) (.cons (.lit (.str [111, 114])) .nil))) (.call 5 (.cons (.nm 0) (.cons (.lit (.int 2)) .nil)))) (.cons (.nm 12) (.cons (.call 9 (.cons (.nm 0) (.cons (.bin .sub (.bin .sub (.nm 1) (.lit (.int 1))) (.nm 10)) (.cons (.nm 2) (.cons (.nm 3) (.cons (.nm 4) .nil)))))) .nil))))) .nil)))))))))))
def p_l_sentence : PFn := { name := "_law_sentence", st := topS 12, N := ["_law_tape", "_law_size", "_law_free", "_law_binders", "_law_shows", "_law_way", "_law_name", "_law_flipped", "_law_word", "_law_body", "_law_first", "_law_told", "_law_one", "_law_odd"], ps := ["_law_tape", "_law_size", "_law_free", "_law_binders", "_law_shows"], body := b_l_sentence, fz := [(65, [6]), (66, [7]), (69, [8]), (72, [6]), (73, [6, 9]), (76, [10]), (77, [11]), (78, [10]), (79, [12])], nw := [] }
def b_l_walked : Sms := (.cons (.asg (.nm 3) (.bi .len (.nm 2))) (.cons (.mut none .append (.nm 2) (.cons (.tup (.cons (.nm 1) (.cons (.nm 0) .nil))) .nil)) (.cons (.asg (.nm 4) (.ix (.nm 0) (.lit (.int 0)))) (.cons (.iff (.cmp .eq (.nm 4) (.lit (.str [110, 111, 116]))) (.cons (.ex (.call 10 (.cons (.ix (.nm 0) (.lit (.int 1))) (.cons (.lc (.tup (.cons (.nm 5) (.cons (.not (.nm 6)) .nil))) [5, 6] (.tup [5, 6]) (.seq (.nm 1)) .no) (.cons (.nm 2) .nil))))) .nil) .nil) (.cons (.iff (.cmp .inn (.nm 4) (.tup (.cons (.lit (.str [97, 110, 100])) (.cons (.lit (.str [111, 114])) .nil)))) (.cons (.ex (.call 10 (.cons (.ix (.nm 0) (.lit (.int 1))) (.cons (.nm 1) (.cons (.nm 2) .nil))))) .nil) .nil) (.cons (.iff (.cmp .inn (.nm 4) (.tup (.cons (.lit (.str [97, 110, 100])) (.cons (.lit (.str [111, 114])) (.cons (.lit (.str [115, 111, 109, 101])) (.cons (.lit (.str [101, 118, 101, 114, 121])) (.cons (.lit (.str [115, 104, 111, 119])) .nil))))))) (.cons (.ex (.call 10 (.cons (.ix (.nm 0) (.lit (.int 2))) (.cons (.nm 1) (.cons (.nm 2) .nil))))) .nil) .nil) (.cons (.iff (.cmp .inn (.nm 4) (.tup (.cons (.lit (.str [108, 101, 97, 115, 116])) (.cons (.lit (.str [109, 111, 115, 116])) .nil)))) (.cons (.frz 3) (.cons (.ex (.call 10 (.cons (.ix (.nm 0) (.lit (.int 2))) (.cons (.bin .add (.nm 1) (.lst (.cons (.tup (.cons (.nm 3) (.cons (.lit (.bl false)) .nil))) .nil))) (.cons (.nm 2) .nil))))) .nil)) .nil) (.cons (.iff (.cmp .eq (.nm 4) (.lit (.str [115, 104, 111, 119]))) (.cons (.ex (.call 10 (.cons (.ix (.nm 0) (.lit (.int 3))) (.cons (.nm 1) (.cons (.nm 2) .nil))))) .nil) .nil) .nil))))))))
def p_l_walked : PFn := { name := "_law_walked", st := topS 13, N := ["_law_sentence_here", "_law_odds", "_law_rows", "_law_number", "_law_word", "_law_binder", "_law_odd"], ps := ["_law_sentence_here", "_law_odds", "_law_rows"], body := b_l_walked, fz := [(91, [3])], nw := [] }
def b_law : Sms := (.cons (.new 1 (.lst (.cons (.nm 0) (.cons (.lit (.int 0)) .nil)))) (.cons (.fr (.nm 2) (.rng1 (.lit (.int 10))) (.cons (.frz 1) (.cons (.asg (.nm 3) (.call 9 (.cons (.nm 1) (.cons (.bin .add (.lit (.int 1)) (.call 5 (.cons (.nm 1) (.cons (.lit (.int 30)) .nil)))) (.cons (.lst .nil) (.cons (.lit (.int 0)) (.cons (.lit (.int 0)) .nil))))))) (.cons (.new 4 (.lst .nil)) (.cons (.frz 3) (.cons (.frz 4) (.cons (.ex (.call 10 (.cons (.nm 3) (.cons (.lst .nil) (.cons (.nm 4) .nil))))) (.cons (.fr (.nm 5) (.rng1 (.bi .len (.nm 4))) (.cons (.asg (.tup [6, 7]) (.ix (.nm 4) (.nm 5))) (.cons (.fr (.tup [8, 9]) (.seq (.nm 6)) (.cons (.fr (.nm 10) (.seq (.tup (.cons (.lit (.bl true)) (.cons (.lit (.bl false)) .nil)))) (.cons (.frz 3) (.cons (.asg (.nm 11) (.call 2 (.cons (.nm 3) (.cons (.nm 8) (.cons (.nm 5) (.cons (.nm 10) .nil)))))) (.cons (.iff (.or (.not (.isi (.nm 11) [.bool])) (.cmp .ne (.nm 11) (.cmp .ne (.nm 10) (.nm 9)))) (.cons (.ret (.lit (.bl false))) .nil) .nil) (.cons (.iff (.and (.cmp .eq (.nm 7) (.tup (.cons (.lit (.str [119, 105, 115, 104])) (.cons (.ix (.ix (.ix (.nm 4) (.nm 8)) (.lit (.int 1))) (.lit (.int 1))) .nil)))) (.cmp .ne (.nm 11) (.nm 10))) (.cons (.ret (.lit (.bl false))) .nil) .nil) .nil))))) .nil)) .nil))) .nil)))))))) (.cons (.ret (.lit (.bl true))) .nil)))
def p_law : PFn := { name := "law", st := topS 14, N := ["_law_script", "_law_tape", "_law_k", "_law_sentence_here", "_law_rows", "_law_number", "_law_odds", "_law_one", "_law_binder", "_law_odd", "_law_truth", "_law_found"], ps := ["_law_script"], body := b_law, fz := [(97, [1]), (99, [3, 4]), (104, [3])], nw := [98, 95] }
def fs : List PFn := [p_parts_of, p_rows_of, p_sign_at, p_l_cell_at, p_l_by, p_l_next, p_l_hands, p_l_step, p_l_leaf, p_l_sentence, p_l_walked, p_law]
def fns : List Str := ["parts_of", "rows_of", "sign_at", "_law_cell_at", "_law_by", "_law_next", "_law_hands", "_law_step", "_law_leaf", "_law_sentence", "_law_walked", "law"]
def T : List Fn := [p_parts_of.fn, p_rows_of.fn, p_sign_at.fn, p_l_cell_at.fn, p_l_by.fn, p_l_next.fn, p_l_hands.fn, p_l_step.fn, p_l_leaf.fn, p_l_sentence.fn, p_l_walked.fn, p_law.fn]
end K09
namespace K09
open PySem L2 Ds PyProof.Rows
theorem fns_eq : fs.map (·.name) = fns := rfl
theorem T_eq : fs.map (·.fn) = T := rfl
theorem k_parts_of : PFnOk cs fns bl 400 p_parts_of := ⟨by kernel_rfl, by kernel_rfl⟩
theorem k_rows_of : PFnOk cs fns bl 400 p_rows_of := ⟨by kernel_rfl, by kernel_rfl⟩
theorem k_sign_at : PFnOk cs fns bl 400 p_sign_at := ⟨by kernel_rfl, by kernel_rfl⟩
theorem k_l_cell_at : PFnOk cs fns bl 400 p_l_cell_at := ⟨by kernel_rfl, by kernel_rfl⟩
theorem k_l_by : PFnOk cs fns bl 400 p_l_by := ⟨by kernel_rfl, by kernel_rfl⟩
theorem k_l_next : PFnOk cs fns bl 400 p_l_next := ⟨by kernel_rfl, by kernel_rfl⟩
theorem k_l_hands : PFnOk cs fns bl 400 p_l_hands := ⟨by kernel_rfl, by kernel_rfl⟩
theorem k_l_step : PFnOk cs fns bl 400 p_l_step := ⟨by kernel_rfl, by kernel_rfl⟩
theorem k_l_leaf : PFnOk cs fns bl 400 p_l_leaf := ⟨by kernel_rfl, by kernel_rfl⟩
theorem k_l_sentence : PFnOk cs fns bl 400 p_l_sentence := ⟨by kernel_rfl, by kernel_rfl⟩
theorem k_l_walked : PFnOk cs fns bl 400 p_l_walked := ⟨by kernel_rfl, by kernel_rfl⟩
theorem k_law : PFnOk cs fns bl 400 p_law := ⟨by kernel_rfl, by kernel_rfl⟩
theorem k_all : ∀ p ∈ fs, PFnOk cs (fs.map (·.name)) bl 400 p := by
  rw [fns_eq]
  intro p hp
  simp only [fs, List.mem_cons, List.not_mem_nil, or_false] at hp
  rcases hp with rfl | rfl | rfl | rfl | rfl | rfl | rfl | rfl | rfl | rfl | rfl | rfl
  · exact k_parts_of
  · exact k_rows_of
  · exact k_sign_at
  · exact k_l_cell_at
  · exact k_l_by
  · exact k_l_next
  · exact k_l_hands
  · exact k_l_step
  · exact k_l_leaf
  · exact k_l_sentence
  · exact k_l_walked
  · exact k_law
end K09
namespace K09
open PySem Ds
theorem T0 : T[0]? = some p_parts_of.fn := rfl
theorem T1 : T[1]? = some p_rows_of.fn := rfl
theorem T2 : T[2]? = some p_sign_at.fn := rfl
theorem T3 : T[3]? = some fCell := rfl
theorem T4 : T[4]? = some (fBy 3) := rfl
theorem T5 : T[5]? = some (fNext 4) := rfl
theorem T6 : T[6]? = some p_l_hands.fn := rfl
theorem T7 : T[7]? = some p_l_step.fn := rfl
theorem T8 : T[8]? = some p_l_leaf.fn := rfl
theorem T9 : T[9]? = some p_l_sentence.fn := rfl
theorem T10 : T[10]? = some p_l_walked.fn := rfl
theorem T11 : T[11]? = some p_law.fn := rfl
inductive Sn where
  | fact (x : List Nat) | wish (x : List Nat) | nt (s : Sn) | two (b : Bool) (s t : Sn) | stp (b : Bool) (p : D) (s : Sn) | bnd (b : Bool) (x : List Nat) (s : Sn) | shw (h : D) (s t : Sn)
abbrev wNot : List Nat := [110, 111, 116]
def w2 (b : Bool) : List Nat := if b then [97, 110, 100] else [111, 114]
def wS (b : Bool) : List Nat := if b then [115, 111, 109, 101] else [101, 118, 101, 114, 121]
def wB (b : Bool) : List Nat := if b then [108, 101, 97, 115, 116] else [109, 111, 115, 116]
def enc : Sn → D
  | .fact x => .tup [.str [102, 97, 99, 116], .str x]
  | .wish x => .tup [.str [119, 105, 115, 104], .str x]
  | .nt s => .tup [.str [110, 111, 116], enc s]
  | .two b s t => .tup [.str (w2 b), enc s, enc t]
  | .stp b p s => .tup [.str (wS b), p, enc s]
  | .bnd b x s => .tup [.str (wB b), .str x, enc s]
  | .shw h s t => .tup [.str [115, 104, 111, 119], h, enc s, enc t]
def kids : Sn → List Sn
  | .fact _ => []
  | .wish _ => []
  | .nt s => [s]
  | .two _ s t => [s, t]
  | .stp _ _ s => [s]
  | .bnd _ _ s => [s]
  | .shw _ s t => [s, t]
variable {W : Nat}
theorem parts_ok (n : Nat) (S : Sto) (s : Sn) : callN T W (n + 1) 0 [enc s] S = some (.val (.tup ((kids s).map enc)), S) := by
  rw [callN, T0]
  cases s with
  | two b s t => cases b <;> simp [p_parts_of, PFn.fn, b_parts_of, enc, kids, w2, cmp_eqS, okS, sizeLine_val]
  | stp b p s => cases b <;> simp [p_parts_of, PFn.fn, b_parts_of, enc, kids, wS, cmp_eqS, okS, sizeLine_val]
  | bnd b p s => cases b <;> simp [p_parts_of, PFn.fn, b_parts_of, enc, kids, wB, cmp_eqS, okS, sizeLine_val]
  | _ => simp [p_parts_of, PFn.fn, b_parts_of, enc, kids, cmp_eqS, okS, sizeLine_val]
abbrev Rw := Sn × Option Nat × Nat
def optD : Option Nat → D
  | none => .non
  | some n => .int n
def rowD (r : Rw) : D := .tup [enc r.1, optD r.2.1, .int r.2.2]
def sz : Sn → Nat
  | .fact _ => 1
  | .wish _ => 1
  | .nt s => 1 + sz s
  | .two _ s t => 1 + sz s + sz t
  | .stp _ _ s => 1 + sz s
  | .bnd _ _ s => 1 + sz s
  | .shw _ s t => 1 + sz s + sz t
def rowsS : Sn → Option Nat → Nat → Nat → List Rw
  | .fact x, p, w, _ => [(.fact x, p, w)]
  | .wish x, p, w, _ => [(.wish x, p, w)]
  | .nt s, p, w, b => (.nt s, p, w) :: rowsS s (some b) 0 (b + 1)
  | .two o s t, p, w, b => (.two o s t, p, w) :: (rowsS s (some b) 0 (b + 1) ++ rowsS t (some b) 1 (b + 1 + sz s))
  | .stp o q s, p, w, b => (.stp o q s, p, w) :: rowsS s (some b) 0 (b + 1)
  | .bnd o q s, p, w, b => (.bnd o q s, p, w) :: rowsS s (some b) 0 (b + 1)
  | .shw h s t, p, w, b => (.shw h s t, p, w) :: (rowsS s (some b) 0 (b + 1) ++ rowsS t (some b) 1 (b + 1 + sz s))
def fin (b : Nat) : List Rw → List Rw
  | [] => []
  | (s, p, w) :: r => rowsS s p w b ++ fin (b + sz s) r
def kidR (s : Sn) (b : Nat) : List Rw := (kids s).zipIdx.map fun q => (q.1, some b, q.2)
theorem fin_step (s : Sn) (p : Option Nat) (w b : Nat) (r : List Rw) : fin b ((s, p, w) :: r) = (s, p, w) :: fin (b + 1) (kidR s b ++ r) := by
  cases s <;> simp [fin, kidR, kids, rowsS, sz, List.zipIdx, Nat.add_assoc]
def szs : List Rw → Nat
  | [] => 0
  | r :: rs => sz r.1 + szs rs
theorem szs_step (s : Sn) (p : Option Nat) (w b : Nat) (r : List Rw) : szs (kidR s b ++ r) + 1 = szs ((s, p, w) :: r) := by
  cases s <;> simp [szs, kidR, kids, sz, List.zipIdx] <;> omega
theorem rows_len : ∀ (s : Sn) (p : Option Nat) (w b : Nat), (rowsS s p w b).length = sz s
  | .fact _, _, _, _ => rfl
  | .wish _, _, _, _ => rfl
  | .nt s, _, _, _ => by simp [rowsS, sz, rows_len s]; omega
  | .two _ s t, _, _, _ => by simp [rowsS, sz, rows_len s, rows_len t]; omega
  | .stp _ _ s, _, _, _ => by simp [rowsS, sz, rows_len s]; omega
  | .bnd _ _ s, _, _, _ => by simp [rowsS, sz, rows_len s]; omega
  | .shw _ s t, _, _, _ => by simp [rowsS, sz, rows_len s, rows_len t]; omega
theorem rng_0 : rng3D (.int (-1)) (.int (-1)) (.int (-1)) = some [] := by rfl
theorem rng_1 : rng3D (.int 0) (.int (-1)) (.int (-1)) = some [.int 0] := by rfl
theorem rng_2 : rng3D (.int 1) (.int (-1)) (.int (-1)) = some [.int 1, .int 0] := by rfl
def bRows : Sms := (.cons (.mut (some (.tup [3, 4, 5])) .pop (.nm 2) .nil) (.cons (.asg (.nm 6) (.bi .len (.nm 1))) (.cons (.mut none .append (.nm 1) (.cons (.tup (.cons (.nm 3) (.cons (.nm 4) (.cons (.nm 5) .nil)))) .nil)) (.cons (.asg (.nm 7) (.call 0 (.cons (.nm 3) .nil))) (.cons (.fr (.nm 8) (.rng3 (.bin .sub (.bi .len (.nm 7)) (.lit (.int 1))) (.neg (.lit (.int 1))) (.neg (.lit (.int 1)))) (.cons (.frz 6) (.cons (.mut none .append (.nm 2) (.cons (.tup (.cons (.ix (.nm 7) (.nm 8)) (.cons (.nm 6) (.cons (.nm 8) .nil)))) .nil)) .nil))) .nil)))))
theorem rows_turn (n : Nat) (S : Sto) (v : Option R) (e3 e4 e5 e6 e7 e8 : Option R) (F Wt : List Rw) (s : Sn) (p : Option Nat) (w : Nat) (hF : F.length < 100000) (hW : Wt.length < 100000) :
    ∃ f8, bdy (callN T W (n + 1)) W bRows [v, some (.new (.lst (F.map rowD))), some (.new (.lst ((Wt.map rowD) ++ [rowD (s, p, w)]))), e3, e4, e5, e6, e7, e8] S =
      some (.nx [v, some (.new (.lst ((F ++ [(s, p, w)]).map rowD))), some (.new (.lst ((Wt ++ (kidR s F.length).reverse).map rowD))), some (.val (enc s)), some (.val (optD p)), some (.val (.int w)), some (.val (.int F.length)), some (.val (.tup ((kids s).map enc))), f8], S) := by
  have hp := parts_ok (W := W) n S s
  have l1 : F.length < 16777216 := by omega
  have l2 : Wt.length < 16777216 := by omega
  have l3 : Wt.length + 1 < 16777216 := by omega
  have i1 : itemsOf = itemsOf := rfl
  simp only [bdy, bRows]
  cases s with
  | fact x => exact ⟨e8, by simp [rowD, tgSet, mu_app, l1, sizeLine_val, hp, kids, rng_0, kidR]⟩
  | wish x => exact ⟨e8, by simp [rowD, tgSet, mu_app, l1, sizeLine_val, hp, kids, rng_0, kidR]⟩
  | nt s =>
    refine ⟨some (.val (.int 0)), ?_⟩
    simp [rowD, tgSet, mu_app, l1, l2, sizeLine_val, hp, kids, rng_1, kidR, loopF, bdy, optD]
  | stp o q s => exact ⟨some (.val (.int 0)), by simp [rowD, tgSet, mu_app, l1, l2, sizeLine_val, hp, kids, rng_1, kidR, loopF, bdy, optD]⟩
  | bnd o q s => exact ⟨some (.val (.int 0)), by simp [rowD, tgSet, mu_app, l1, l2, sizeLine_val, hp, kids, rng_1, kidR, loopF, bdy, optD]⟩
  | two o s t => exact ⟨some (.val (.int 0)), by simp [rowD, tgSet, mu_app, l1, l2, l3, sizeLine_val, hp, kids, rng_2, kidR, loopF, bdy, optD]⟩
  | shw o s t => exact ⟨some (.val (.int 0)), by simp [rowD, tgSet, mu_app, l1, l2, l3, sizeLine_val, hp, kids, rng_2, kidR, loopF, bdy, optD]⟩
theorem rows_loop (n : Nat) (S : Sto) (v : Option R) : ∀ (m : Nat) (st F : List Rw) (e3 e4 e5 e6 e7 e8 : Option R), szs st < m → F.length + szs st < 100000 →
    ∃ f3 f4 f5 f6 f7 f8, loopW (cdF (callN T W (n + 1)) (.yes (.cmp .gt (.bi .len (.nm 2)) (.lit (.int 0))))) (bdy (callN T W (n + 1)) W bRows) m [v, some (.new (.lst (F.map rowD))), some (.new (.lst (st.reverse.map rowD))), e3, e4, e5, e6, e7, e8] S =
      some (.nx [v, some (.new (.lst ((F ++ fin F.length st).map rowD))), some (.new (.lst [])), f3, f4, f5, f6, f7, f8], S)
  | 0, st, F, _, _, _, _, _, _, h, _ => by omega
  | m + 1, [], F, e3, e4, e5, e6, e7, e8, h, _ => ⟨e3, e4, e5, e6, e7, e8, by
      rw [loopW_f (S1 := S) (by simp [cdF])]
      simp [fin]⟩
  | m + 1, (s, p, w) :: st, F, e3, e4, e5, e6, e7, e8, h, hb => by
    have q := szs_step s p w F.length st
    have hst : st.length ≤ szs st := by
      clear h hb q
      induction st with
      | nil => simp
      | cons r rs ih =>
        have : 1 ≤ sz r.1 := by cases r.1 <;> simp [sz] <;> omega
        simp only [szs, List.length_cons]; omega
    have hsz : 1 ≤ sz s := by cases s <;> simp [sz] <;> omega
    have e0 : szs ((s, p, w) :: st) = sz s + szs st := rfl
    obtain ⟨f8, ht⟩ := rows_turn (W := W) n S v e3 e4 e5 e6 e7 e8 F st.reverse s p w (by omega) (by rw [List.length_reverse]; omega)
    obtain ⟨g3, g4, g5, g6, g7, g8, ih⟩ := rows_loop n S v m (kidR s F.length ++ st) (F ++ [(s, p, w)]) (some (.val (enc s))) (some (.val (optD p))) (some (.val (.int w))) (some (.val (.int F.length))) (some (.val (.tup ((kids s).map enc)))) f8 (by omega) (by rw [List.length_append, List.length_singleton]; omega)
    refine ⟨g3, g4, g5, g6, g7, g8, ?_⟩
    have er : (((s, p, w) :: st).reverse.map rowD) = st.reverse.map rowD ++ [rowD (s, p, w)] := by simp
    rw [er, loopW_t (S1 := S) (by simp [cdF]) ht]
    rw [List.reverse_append] at ih
    rw [ih, fin_step]
    simp
theorem rows_ok (n : Nat) (S : Sto) (s : Sn) (hs : sz s < 1000) (hW : W = 1000) : callN T W (n + 2) 1 [enc s] S = some (.new (.lst ((rowsS s none 0 0).map rowD)), S) := by
  obtain ⟨f3, f4, f5, f6, f7, f8, h⟩ := rows_loop (W := W) n S (some (.val (enc s))) 1000 [(s, none, 0)] [] none none none none none none (by simpa [szs] using hs) (by simp [szs]; omega)
  have h' : evS (callN T W (n + 1)) W [some (.val (enc s)), some (.new (.lst [])), some (.new (.lst [rowD (s, none, 0)])), none, none, none, none, none, none] (.whl (.cmp .gt (.bi .len (.nm 2)) (.lit (.int 0))) bRows) S = some (.nx [some (.val (enc s)), some (.new (.lst ((fin 0 [(s, none, 0)]).map rowD))), some (.new (.lst [])), f3, f4, f5, f6, f7, f8], S) := by
    rw [evS_whl]
    subst hW
    exact h
  have ew : rowD (s, none, 0) = .tup [enc s, .non, .int 0] := rfl
  rw [ew] at h'
  refine call_rt (ρ := [some (.val (enc s)), none, none, none, none, none, none, none, none]) (b := .cons (.asg (.nm 1) (.lst .nil)) (.cons (.asg (.nm 2) (.lst (.cons (.tup (.cons (.nm 0) (.cons (.lit .non) (.cons (.lit (.int 0)) .nil)))) .nil))) (.cons (.whl (.cmp .gt (.bi .len (.nm 2)) (.lit (.int 0))) bRows) (.cons (.ret (.nm 1)) .nil)))) T1 rfl rfl rfl ?_
  simp [sizeLine_val, h', fin]
end K09
namespace K09
open PySem Ds
variable {W : Nat}
abbrev Od := List (Nat × Bool)
def flp (o : Od) : Od := o.map fun q => (q.1, !q.2)
def stepO (s : Sn) (b : Nat) (o : Od) : Od := match s with
  | .nt _ => flp o
  | .bnd _ _ _ => o ++ [(b, false)]
  | _ => o
def oddsS : Sn → Od → Nat → List (Od × Sn)
  | .fact x, o, _ => [(o, .fact x)]
  | .wish x, o, _ => [(o, .wish x)]
  | .nt s, o, b => (o, .nt s) :: oddsS s (flp o) (b + 1)
  | .two q s t, o, b => (o, .two q s t) :: (oddsS s o (b + 1) ++ oddsS t o (b + 1 + sz s))
  | .stp q p s, o, b => (o, .stp q p s) :: oddsS s o (b + 1)
  | .bnd q p s, o, b => (o, .bnd q p s) :: oddsS s (o ++ [(b, false)]) (b + 1)
  | .shw h s t, o, b => (o, .shw h s t) :: (oddsS s o (b + 1) ++ oddsS t o (b + 1 + sz s))
theorem odds_len : ∀ (s : Sn) (o : Od) (b : Nat), (oddsS s o b).length = sz s
  | .fact _, _, _ => rfl
  | .wish _, _, _ => rfl
  | .nt s, _, _ => by simp [oddsS, sz, odds_len s]; omega
  | .two _ s t, _, _ => by simp [oddsS, sz, odds_len s, odds_len t]; omega
  | .stp _ _ s, _, _ => by simp [oddsS, sz, odds_len s]; omega
  | .bnd _ _ s, _, _ => by simp [oddsS, sz, odds_len s]; omega
  | .shw _ s t, _, _ => by simp [oddsS, sz, odds_len s, odds_len t]; omega
def Rel (L : List Rw) (O : List (Od × Sn)) (b : Nat) (p : Option Nat) (o : Od) : Prop := ∀ (i : Nat) r, L[i]? = some r → ∃ od, O[i]? = some (od, r.1) ∧ ((i = 0 ∧ r.2.1 = p ∧ od = o) ∨
  ∃ (a : Nat) (ra : Rw) (oa : Od), a < i ∧ r.2.1 = some (b + a) ∧ L[a]? = some ra ∧ O[a]? = some (oa, ra.1) ∧ od = stepO ra.1 (b + a) oa)
theorem rel_child {L : List Rw} {O : List (Od × Sn)} {s : Sn} {b k w : Nat} {p : Option Nat} {o : Od} {L' : List Rw} {O' : List (Od × Sn)} (h : Rel L' O' (b + k) (some b) (stepO s b o)) (hk : 1 ≤ k)
    (hL : ∀ j r, L'[j]? = some r → L[k + j]? = some r) (hO : ∀ (j : Nat) q, O'[j]? = some q → O[k + j]? = some q) (h0 : L[0]? = some (s, p, w)) (h1 : O[0]? = some (o, s)) : ∀ (j : Nat) r, L'[j]? = some r → ∃ od, O[k + j]? = some (od, r.1) ∧
      ∃ (a : Nat) (ra : Rw) (oa : Od), a < k + j ∧ r.2.1 = some (b + a) ∧ L[a]? = some ra ∧ O[a]? = some (oa, ra.1) ∧ od = stepO ra.1 (b + a) oa := by
  intro j r hj
  obtain ⟨od, e1, e2⟩ := h j r hj
  refine ⟨od, hO j _ e1, ?_⟩
  rcases e2 with ⟨rfl, e3, e4⟩ | ⟨a, ra, oa, e3, e4, e5, e6, e7⟩
  · exact ⟨0, (s, p, w), o, by omega, by rw [e3]; rfl, h0, h1, by rw [e4]; rfl⟩
  · exact ⟨k + a, ra, oa, by omega, by rw [e4]; congr 1; omega, hL a ra e5, hO a _ e6, by rw [e7]; congr 1; omega⟩
theorem rel_one {s c : Sn} {p : Option Nat} {w b : Nat} {o : Od} (h : Rel (rowsS c (some b) 0 (b + 1)) (oddsS c (stepO s b o) (b + 1)) (b + 1) (some b) (stepO s b o)) :
    Rel ((s, p, w) :: rowsS c (some b) 0 (b + 1)) ((o, s) :: oddsS c (stepO s b o) (b + 1)) b p o := by
  intro i r hi
  cases i with
  | zero => simp at hi; subst hi; exact ⟨o, rfl, .inl ⟨rfl, rfl, rfl⟩⟩
  | succ j =>
    simp at hi
    obtain ⟨od, e1, e2⟩ := rel_child (L := (s, p, w) :: rowsS c (some b) 0 (b + 1)) (O := (o, s) :: oddsS c (stepO s b o) (b + 1)) (k := 1) h (by omega) (fun j r q => by rw [Nat.add_comm 1 j]; simpa using q) (fun j r q => by rw [Nat.add_comm 1 j]; simpa using q) rfl rfl j r hi
    rw [Nat.add_comm 1 j] at e1 e2
    exact ⟨od, e1, .inr e2⟩
theorem rel_two {s c d : Sn} {p : Option Nat} {w b : Nat} {o : Od} (h : Rel (rowsS c (some b) 0 (b + 1)) (oddsS c o (b + 1)) (b + 1) (some b) o) (h' : Rel (rowsS d (some b) 1 (b + 1 + sz c)) (oddsS d o (b + 1 + sz c)) (b + 1 + sz c) (some b) o) (hs : stepO s b o = o) :
    Rel ((s, p, w) :: (rowsS c (some b) 0 (b + 1) ++ rowsS d (some b) 1 (b + 1 + sz c))) ((o, s) :: (oddsS c o (b + 1) ++ oddsS d o (b + 1 + sz c))) b p o := by
  have lr := rows_len c (some b) 0 (b + 1)
  have lo := odds_len c o (b + 1)
  intro i r hi
  cases i with
  | zero => simp at hi; subst hi; exact ⟨o, rfl, .inl ⟨rfl, rfl, rfl⟩⟩
  | succ j =>
    simp only [List.getElem?_cons_succ] at hi
    rcases Nat.lt_or_ge j (sz c) with q | q
    · rw [List.getElem?_append_left (by omega)] at hi
      obtain ⟨od, e1, e2⟩ := rel_child (L := (s, p, w) :: (rowsS c (some b) 0 (b + 1) ++ rowsS d (some b) 1 (b + 1 + sz c))) (O := (o, s) :: (oddsS c o (b + 1) ++ oddsS d o (b + 1 + sz c))) (k := 1) (s := s) (o := o) (by rw [hs]; exact h) (by omega)
        (fun j r q => by rw [Nat.add_comm 1 j, List.getElem?_cons_succ, List.getElem?_append_left (Ds.lt_get q)]; exact q)
        (fun j r q => by rw [Nat.add_comm 1 j, List.getElem?_cons_succ, List.getElem?_append_left (Ds.lt_get q)]; exact q) rfl rfl j r hi
      rw [Nat.add_comm 1 j] at e1 e2
      exact ⟨od, e1, .inr e2⟩
    · rw [List.getElem?_append_right (by omega), lr] at hi
      obtain ⟨od, e1, e2⟩ := rel_child (L := (s, p, w) :: (rowsS c (some b) 0 (b + 1) ++ rowsS d (some b) 1 (b + 1 + sz c))) (O := (o, s) :: (oddsS c o (b + 1) ++ oddsS d o (b + 1 + sz c))) (k := 1 + sz c) (s := s) (o := o) (by rw [hs, ← Nat.add_assoc]; exact h') (by omega)
        (fun j r q => by rw [show 1 + sz c + j = (sz c + j) + 1 by omega, List.getElem?_cons_succ, List.getElem?_append_right (by omega), lr, Nat.add_sub_cancel_left]; exact q)
        (fun j r q => by rw [show 1 + sz c + j = (sz c + j) + 1 by omega, List.getElem?_cons_succ, List.getElem?_append_right (by omega), lo, Nat.add_sub_cancel_left]; exact q) rfl rfl (j - sz c) r hi
      rw [show 1 + sz c + (j - sz c) = j + 1 by omega] at e1 e2
      exact ⟨od, e1, .inr e2⟩
theorem rel : ∀ (s : Sn) (p : Option Nat) (w b : Nat) (o : Od), Rel (rowsS s p w b) (oddsS s o b) b p o
  | .fact x, p, w, b, o => fun i r hi => by
    cases i with
    | zero => simp [rowsS] at hi; subst hi; exact ⟨o, rfl, .inl ⟨rfl, rfl, rfl⟩⟩
    | succ j => simp [rowsS] at hi
  | .wish x, p, w, b, o => fun i r hi => by
    cases i with
    | zero => simp [rowsS] at hi; subst hi; exact ⟨o, rfl, .inl ⟨rfl, rfl, rfl⟩⟩
    | succ j => simp [rowsS] at hi
  | .nt s, p, w, b, o => rel_one (s := .nt s) (rel s _ _ _ _)
  | .two _ s t, p, w, b, o => rel_two (rel s _ _ _ _) (rel t _ _ _ _) rfl
  | .stp q pp s, p, w, b, o => rel_one (s := .stp q pp s) (rel s _ _ _ _)
  | .bnd q x s, p, w, b, o => rel_one (s := .bnd q x s) (rel s _ _ _ _)
  | .shw _ s t, p, w, b, o => rel_two (rel s _ _ _ _) (rel t _ _ _ _) rfl
theorem odd_lt {L : List Rw} {O : List (Od × Sn)} (h : Rel L O 0 none []) : ∀ (n : Nat) r od, L[n]? = some r → O[n]? = some (od, r.1) → ∀ q ∈ od, q.1 < n := by
  intro n
  induction n using Nat.strongRecOn with
  | ind n ih =>
    intro r od h1 h2 q hq
    obtain ⟨od', e1, e2⟩ := h n r h1
    rw [h2] at e1
    cases e1
    rcases e2 with ⟨_, _, rfl⟩ | ⟨a, ra, oa, e3, e4, e5, e6, rfl⟩
    · cases hq
    · have i2 := ih a e3 ra oa e5 e6
      unfold stepO at hq
      split at hq
      · simp only [flp, List.mem_map] at hq
        obtain ⟨y, hy, rfl⟩ := hq
        have := i2 y hy
        show y.1 < n
        omega
      · rcases List.mem_append.mp hq with hq | hq
        · have := i2 q hq; omega
        · simp at hq; subst hq; exact e3
      · have := i2 q hq; omega
def bSign : Sms := (.cons (.iff (.cmp .eq (.ix (.ix (.ix (.nm 4) (.nm 5)) (.lit (.int 0))) (.lit (.int 0))) (.lit (.str [110, 111, 116]))) (.cons (.asg (.nm 3) (.not (.nm 3))) .nil) .nil) (.cons (.asg (.nm 5) (.ix (.ix (.nm 4) (.nm 5)) (.lit (.int 1)))) .nil))
def isNt : Sn → Bool
  | .nt _ => true
  | _ => false
theorem sign_turn {C : Orc} {S : Sto} {v b num : Option R} {L : List Rw} {a : Nat} {ra : Rw} {t : Bool} (h : L[a]? = some ra) :
    bdy C W bSign [v, b, num, some (.val (.bl t)), some (.new (.lst (L.map rowD))), some (.val (.int a))] S = some (.nx [v, b, num, some (.val (.bl (if isNt ra.1 then !t else t))), some (.new (.lst (L.map rowD))), some (.val (optD ra.2.1))], S) := by
  obtain ⟨s, p, w⟩ := ra
  have e : (L.map rowD)[a]? = some (.tup [enc s, optD p, .int w]) := by rw [List.getElem?_map, h]; rfl
  simp only [bdy, bSign]
  cases s with
  | two q s t => cases q <;> simp [atI_nat', h, rowD, enc, w2, cmp_eqS, okS, isNt]
  | stp q _ s => cases q <;> simp [atI_nat', h, rowD, enc, wS, cmp_eqS, okS, isNt]
  | bnd q _ s => cases q <;> simp [atI_nat', h, rowD, enc, wB, cmp_eqS, okS, isNt]
  | _ => simp [atI_nat', h, rowD, enc, cmp_eqS, okS, isNt]
theorem sign_loop {C : Orc} {S : Sto} {v num : Option R} {L : List Rw} {O : List (Od × Sn)} (h : Rel L O 0 none []) {bb : Nat} : ∀ (n : Nat) r od odd, L[n]? = some r → O[n]? = some (od, r.1) → (bb, odd) ∈ od → ∀ (m : Nat) (t : Bool), n < m →
    loopW (cdF C (.yes (.cmp .ne (.nm 5) (.nm 1)))) (bdy C W bSign) m [v, some (.val (.int bb)), num, some (.val (.bl t)), some (.new (.lst (L.map rowD))), some (.val (optD r.2.1))] S =
      some (.nx [v, some (.val (.int bb)), num, some (.val (.bl (t != odd))), some (.new (.lst (L.map rowD))), some (.val (.int bb))], S) := by
  intro n
  induction n using Nat.strongRecOn with
  | ind n ih =>
    intro r od odd h1 h2 hq m t hm
    obtain ⟨m, rfl⟩ : ∃ k, m = k + 1 := ⟨m - 1, by omega⟩
    obtain ⟨od', e1, e2⟩ := h n r h1
    rw [h2] at e1
    cases e1
    rcases e2 with ⟨_, _, rfl⟩ | ⟨a, ra, oa, e3, e4, e5, e6, rfl⟩
    · cases hq
    rw [Nat.zero_add] at e4 hq
    have hlt := odd_lt h a ra oa e5 e6
    have go : ∀ odd', (bb, odd') ∈ oa → (t != odd) = ((if isNt ra.1 then !t else t) != odd') → loopW (cdF C (.yes (.cmp .ne (.nm 5) (.nm 1)))) (bdy C W bSign) (m + 1) [v, some (.val (.int bb)), num, some (.val (.bl t)), some (.new (.lst (L.map rowD))), some (.val (optD r.2.1))] S =
        some (.nx [v, some (.val (.int bb)), num, some (.val (.bl (t != odd))), some (.new (.lst (L.map rowD))), some (.val (.int bb))], S) := fun odd' hm' ht => by
      have hne := hlt _ hm'
      have hne' : ¬ ((a : Int) = (bb : Int)) := by simp at hne; omega
      have ea : optD (some a) = .int a := rfl
      rw [e4, ea, loopW_t (S1 := S) (by simp [cdF, optD, hne']) (sign_turn e5), ih a e3 ra oa odd' e5 e6 hm' m _ (by omega), ht]
    unfold stepO at hq
    split at hq
    · rename_i s0 hs0
      simp only [flp, List.mem_map, Prod.mk.injEq] at hq
      obtain ⟨⟨b0, o0⟩, hy, hb, ho⟩ := hq
      simp only at hb ho
      subst hb
      refine go o0 hy ?_
      rw [hs0]
      simp only [isNt, if_true, ← ho]
      cases t <;> cases o0 <;> rfl
    · rename_i s0 x0 y0 hs0
      rcases List.mem_append.mp hq with hq | hq
      · refine go odd hq ?_
        rw [hs0]; rfl
      · simp only [List.mem_singleton, Prod.mk.injEq] at hq
        obtain ⟨rfl, rfl⟩ := hq
        rw [e4, loopW_f (S1 := S) (by simp [cdF, optD])]
        simp [optD]
    · rename_i hs1 hs2
      refine go odd hq ?_
      have : isNt ra.1 = false := by
        cases e : ra.1 <;> first | rfl | (rename_i z; exact (hs1 z e).elim)
      rw [this]; rfl
theorem sign_ok (n : Nat) (S : Sto) (s : Sn) (hs : sz s < 900) (hW : W = 1000) (t : Bool) {k bb : Nat} {r : Rw} {od : Od} {odd : Bool} (h1 : (rowsS s none 0 0)[k]? = some r) (h2 : (oddsS s [] 0)[k]? = some (od, r.1)) (hm : (bb, odd) ∈ od) :
    callN T W (n + 3) 2 [enc s, .int bb, .int k, .bl t] S = some (.val (.bl (t != odd)), S) := by
  have hr := rows_ok (W := W) n S s (by omega) hW
  have hk : k < 1000 := by have := Ds.lt_get h1; rw [rows_len] at this; omega
  have lp := sign_loop (C := callN T W (n + 2)) (W := W) (S := S) (v := some (.val (enc s))) (num := some (.val (.int k))) (rel s none 0 0 []) (bb := bb) k r od odd h1 h2 hm W t (by omega)
  have e0 : ((rowsS s none 0 0).map rowD)[k]? = some (rowD r) := by rw [List.getElem?_map, h1]; rfl
  have e1 : ixD (rowD r) (.int 1) = some (optD r.2.1) := by simp [rowD]
  have lp' := (evS_whl (c := .cmp .ne (.nm 5) (.nm 1)) (b := bSign)).trans lp
  refine call_rt (ρ := [some (.val (enc s)), some (.val (.int bb)), some (.val (.int k)), some (.val (.bl t)), none, none]) (b := .cons (.asg (.nm 4) (.call 1 (.cons (.nm 0) .nil))) (.cons (.asg (.nm 5) (.ix (.ix (.nm 4) (.nm 2)) (.lit (.int 1)))) (.cons (.whl (.cmp .ne (.nm 5) (.nm 1)) bSign) (.cons (.ret (.nm 3)) .nil)))) T2 rfl rfl rfl ?_
  have lk : look S (rowD r) = rowD r := rfl
  simp [hr, atI_nat', h1, lk, e1, lp']
def oddD (o : Od) : D := .lst (o.map fun q => .tup [.int q.1, .bl q.2])
def pairD (q : Od × Sn) : D := .tup [oddD q.1, enc q.2]
theorem set_set' {S : Sto} {c : Nat} {a b : D} : (S.set c a).set c b = S.set c b := by rw [List.set_set]
theorem flp_ok {C : Orc} {S : Sto} {a0 a2 a3 a4 a5 a6 : Option R} {o : Od} (hl : o.length < 1000) :
    evE C [a0, some (.val (oddD o)), a2, a3, a4, a5, a6] (.lc (.tup (.cons (.nm 5) (.cons (.not (.nm 6)) .nil))) [5, 6] (.tup [5, 6]) (.seq (.nm 1)) .no) S = some (.new (oddD (flp o)), S) := by
  simp only [evE_lc, evI_seq, evE_nm, List.getElem?_cons_succ, List.getElem?_cons_zero, rdS_val, andThen_some, pur_val, itK_some, oddD, it_lst, withS_some, lcK_some]
  rw [lc_mapS (q := fun q => .tup [.int q.1, .bl (!q.2)])]
  · rw [lcZ_some (by rw [List.length_map]; exact small_le (by omega))]
    simp [flp]
  · intro x hx
    simp [lcStep, tgF, tgSet, wipeE, cdF, elF, sizeLine_val]
theorem walk_ok : ∀ (s : Sn) (o : Od) (X : List D) (S : Sto) (c m : Nat), sz s ≤ m → S[c]? = some (.lst X) → o.length + sz s < 1000 → X.length + sz s < 10000 →
    callN T W (m + 1) 10 [enc s, oddD o, .ref c] S = some (.val .non, S.set c (.lst (X ++ (oddsS s o X.length).map pairD)))
  | s, o, X, S, c, m, hm, hS, ho, hX => by
    have hc : c < S.length := Ds.lt_get hS
    have lk : look S (.ref c) = .lst X := look_ref hS
    have hs1 : 1 ≤ sz s := by cases s <;> simp [sz] <;> omega
    obtain ⟨m, rfl⟩ : ∃ k, m = k + 1 := ⟨m - 1, by omega⟩
    have sg : ∀ Y, (S.set c (.lst Y))[c]? = some (.lst Y) := fun Y => List.getElem?_set_self hc
    have hXl : X.length < 16777216 := by omega
    have sg1 := sg
    have e1 : ∀ (Z : List D) (y : D), (S.set c (.lst Z)).set c y = S.set c y := fun Z y => set_set'
    have lks : ∀ Y, look (S.set c (.lst Y)) (.ref c) = .lst Y := fun Y => look_ref (sg Y)
    cases s with
    | fact x =>
      refine call_nx (ρ := [some (.val (enc (.fact x))), some (.val (oddD o)), some (.val (.ref c)), none, none, none, none]) (b := b_l_walked) T10 rfl rfl rfl ?_
      simp [b_l_walked, lk, hS, sizeLine_val, mu_app, hXl, enc, cmp_eqS, okS, oddsS, pairD]
    | wish x =>
      refine call_nx (ρ := [some (.val (enc (.wish x))), some (.val (oddD o)), some (.val (.ref c)), none, none, none, none]) (b := b_l_walked) T10 rfl rfl rfl ?_
      simp [b_l_walked, lk, hS, sizeLine_val, mu_app, hXl, enc, cmp_eqS, okS, oddsS, pairD]
    | nt s =>
      have ih := walk_ok s (flp o) (X ++ [pairD (o, .nt s)]) (S.set c (.lst (X ++ [pairD (o, .nt s)]))) c m (by simp [sz] at hm; omega) (sg _) (by simp [sz] at ho; simp [flp]; omega) (by simp [sz] at hX; simp; omega)
      simp only [pairD, enc, e1, List.length_append, List.length_singleton] at ih
      have hol : o.length < 1000 := by omega
      refine call_nx (ρ := [some (.val (enc (.nt s))), some (.val (oddD o)), some (.val (.ref c)), none, none, none, none]) (b := b_l_walked) T10 rfl rfl rfl ?_
      simp [b_l_walked, lk, hS, sizeLine_val, mu_app, hXl, enc, cmp_eqS, okS, oddsS, pairD, -evE_lc, flp_ok, hol, ih]
    | stp q p s =>
      have ih := walk_ok s o (X ++ [pairD (o, .stp q p s)]) (S.set c (.lst (X ++ [pairD (o, .stp q p s)]))) c m (by simp [sz] at hm; omega) (sg _) (by simp [sz] at ho; omega) (by simp [sz] at hX; simp; omega)
      simp only [pairD, enc, e1, List.length_append, List.length_singleton] at ih
      refine call_nx (ρ := [some (.val (enc (.stp q p s))), some (.val (oddD o)), some (.val (.ref c)), none, none, none, none]) (b := b_l_walked) T10 rfl rfl rfl ?_
      cases q <;> simp [wS] at ih <;> simp [b_l_walked, lk, hS, sizeLine_val, mu_app, hXl, enc, cmp_eqS, okS, oddsS, pairD, wS, ih]
    | bnd q x s =>
      have ih := walk_ok s (o ++ [(X.length, false)]) (X ++ [pairD (o, .bnd q x s)]) (S.set c (.lst (X ++ [pairD (o, .bnd q x s)]))) c m (by simp [sz] at hm; omega) (sg _) (by simp [sz] at ho; simp; omega) (by simp [sz] at hX; simp; omega)
      simp only [pairD, enc, e1, List.length_append, List.length_singleton] at ih
      have hol : o.length + 1 ≤ 16777216 := by omega
      refine call_nx (ρ := [some (.val (enc (.bnd q x s))), some (.val (oddD o)), some (.val (.ref c)), none, none, none, none]) (b := b_l_walked) T10 rfl rfl rfl ?_
      cases q <;> simp [wB, oddD] at ih <;> simp [b_l_walked, lk, hS, sizeLine_val, mu_app, hXl, enc, cmp_eqS, okS, oddsS, pairD, wB, ih, oddD, bin_lst, hol]
    | two q s t =>
      have ih := walk_ok s o (X ++ [pairD (o, .two q s t)]) (S.set c (.lst (X ++ [pairD (o, .two q s t)]))) c m (by simp [sz] at hm; omega) (sg _) (by simp [sz] at ho; omega) (by simp [sz] at hX; simp; omega)
      have ih2 := walk_ok t o ((X ++ [pairD (o, .two q s t)]) ++ (oddsS s o (X ++ [pairD (o, .two q s t)]).length).map pairD) (S.set c (.lst ((X ++ [pairD (o, .two q s t)]) ++ (oddsS s o (X ++ [pairD (o, .two q s t)]).length).map pairD))) c m (by simp [sz] at hm; omega) (sg _) (by simp [sz] at ho; omega) (by simp [sz] at hX; simp [odds_len]; omega)
      simp only [pairD, enc, e1, List.length_append, List.length_singleton, List.length_map, odds_len, List.append_assoc] at ih ih2
      refine call_nx (ρ := [some (.val (enc (.two q s t))), some (.val (oddD o)), some (.val (.ref c)), none, none, none, none]) (b := b_l_walked) T10 rfl rfl rfl ?_
      cases q <;> simp [w2] at ih ih2 <;> simp [b_l_walked, lk, hS, sizeLine_val, mu_app, hXl, enc, cmp_eqS, okS, oddsS, pairD, w2, ih, ih2, Nat.add_assoc]
    | shw h s t =>
      have ih := walk_ok s o (X ++ [pairD (o, .shw h s t)]) (S.set c (.lst (X ++ [pairD (o, .shw h s t)]))) c m (by simp [sz] at hm; omega) (sg _) (by simp [sz] at ho; omega) (by simp [sz] at hX; simp; omega)
      have ih2 := walk_ok t o ((X ++ [pairD (o, .shw h s t)]) ++ (oddsS s o (X ++ [pairD (o, .shw h s t)]).length).map pairD) (S.set c (.lst ((X ++ [pairD (o, .shw h s t)]) ++ (oddsS s o (X ++ [pairD (o, .shw h s t)]).length).map pairD))) c m (by simp [sz] at hm; omega) (sg _) (by simp [sz] at ho; omega) (by simp [sz] at hX; simp [odds_len]; omega)
      simp only [pairD, enc, e1, List.length_append, List.length_singleton, List.length_map, odds_len, List.append_assoc] at ih ih2
      refine call_nx (ρ := [some (.val (enc (.shw h s t))), some (.val (oddD o)), some (.val (.ref c)), none, none, none, none]) (b := b_l_walked) T10 rfl rfl rfl ?_
      simp at ih ih2
      simp [b_l_walked, lk, hS, sizeLine_val, mu_app, hXl, enc, cmp_eqS, okS, oddsS, pairD, ih, ih2, Nat.add_assoc]
end K09
namespace K09
open PySem Ds
variable {W : Nat} {S : Sto} {c : Nat} {ns : List Int}
theorem nxt {n : Nat} {k m : Int} (hc : c < S.length) (hk : 0 ≤ k) (hm : 0 < m) (hk2 : k < 1000000) (hl : ns.length ≤ 63) :
    ∃ r : Nat, (r : Int) < m ∧ callN T W (n + 3) 5 [.ref c, .int m] (tst S c ns k) = some (.val (.int r), tst S c ns (k + 1)) := next_st T3 T4 T5 hc hk hm (by omega) hl
theorem hands_ok {n : Nat} {k : Int} (hc : c < S.length) (hk : 0 ≤ k) (hk2 : k < 1000000) (hl : ns.length ≤ 63) :
    ∃ h, okD 2 h = true ∧ callN T W (n + 4) 6 [.ref c] (tst S c ns k) = some (.val h, tst S c ns (k + 1)) := by
  obtain ⟨r, h1, h2⟩ := nxt (W := W) (n := n) (k := k) (m := 8) hc hk (by omega) hk2 hl
  have hr : r = 0 ∨ r = 1 ∨ r = 2 ∨ r = 3 ∨ r = 4 ∨ r = 5 ∨ r = 6 ∨ r = 7 := by omega
  have go : ∀ h, okD 2 h = true → (callN T W (n + 4) 6 [.ref c] (tst S c ns k) = some (.val h, tst S c ns (k + 1))) → ∃ h, okD 2 h = true ∧ callN T W (n + 4) 6 [.ref c] (tst S c ns k) = some (.val h, tst S c ns (k + 1)) := fun h a b => ⟨h, a, b⟩
  have run : ∀ h : D, L2.atI [D.tup [.str [97]], .tup [.str [97, 98]], .tup [.str [98]], .tup [.str [97], .str [98]], .tup [.str [97], .str [97, 98]], .tup [.str [97], .str [97, 98], .str [98]], .tup [.str [97, 98], .str [98]], .tup [.str [97], .str [122, 122]]] (r : Int) = some h →
      callN T W (n + 4) 6 [.ref c] (tst S c ns k) = some (.val h, tst S c ns (k + 1)) := fun h e => by
    refine call_rt (ρ := [some (.val (.ref c)), none]) (b := b_l_hands) T6 rfl rfl rfl ?_
    simp [b_l_hands, sizeLine_val, h2, e]
  rcases hr with rfl | rfl | rfl | rfl | rfl | rfl | rfl | rfl <;> exact ⟨_, by decide, run _ rfl⟩
theorem step_ok {n : Nat} {k : Int} (hc : c < S.length) (hk : 0 ≤ k) (hk2 : k < 900000) (hl : ns.length ≤ 63) :
    ∃ p k', okD 3 p = true ∧ k ≤ k' ∧ k' ≤ k + 2 ∧ callN T W (n + 5) 7 [.ref c] (tst S c ns k) = some (.val p, tst S c ns k') := by
  obtain ⟨r, h1, h2⟩ := nxt (W := W) (n := n + 1) (k := k) (m := 6) hc hk (by omega) (by omega) hl
  obtain ⟨h, h3, h4⟩ := hands_ok (W := W) (n := n) (k := k + 1) hc (by omega) (by omega) hl
  have hr : r = 0 ∨ r = 1 ∨ r = 2 ∨ r = 3 ∨ r = 4 ∨ r = 5 := by omega
  have go : ∀ p k', okD 3 p = true → k ≤ k' → k' ≤ k + 2 → evSs (callN T W (n + 4)) W [some (.val (.ref c)), none] b_l_step (tst S c ns k) = some (.rt (.val p), tst S c ns k') →
      ∃ p k', okD 3 p = true ∧ k ≤ k' ∧ k' ≤ k + 2 ∧ callN T W (n + 5) 7 [.ref c] (tst S c ns k) = some (.val p, tst S c ns k') := fun p k' a b d e => ⟨p, k', a, b, d, call_rt (ρ := [some (.val (.ref c)), none]) (b := b_l_step) T7 rfl rfl rfl e⟩
  have h3' : okD 2 h = true := h3
  rcases hr with rfl | rfl | rfl | rfl | rfl | rfl
  · exact go (.tup [.str [111, 110]]) (k + 1) (by decide) (by omega) (by omega) (by simp [b_l_step, sizeLine_val, h2])
  · exact go (.tup [.str [111, 110]]) (k + 1) (by decide) (by omega) (by omega) (by simp [b_l_step, sizeLine_val, h2])
  · exact go (.tup [.str [98, 97, 99, 107]]) (k + 1) (by decide) (by omega) (by omega) (by simp [b_l_step, sizeLine_val, h2])
  · exact go (.tup [.str [111, 110, 101], h]) (k + 1 + 1) (by simp [okD, okDs, h3']) (by omega) (by omega) (by simp [b_l_step, sizeLine_val, h2, h4])
  · exact go (.tup [.str [111, 110, 101], h]) (k + 1 + 1) (by simp [okD, okDs, h3']) (by omega) (by omega) (by simp [b_l_step, sizeLine_val, h2, h4])
  · exact go (.tup [.str [112, 111, 111, 108], h]) (k + 1 + 1) (by simp [okD, okDs, h3']) (by omega) (by omega) (by simp [b_l_step, sizeLine_val, h2, h4])
abbrev Fr := List (List Nat × Bool)
def freeD (f : Fr) : D := .lst (f.map fun q => .tup [.str q.1, .bl q.2])
def okF (f : Fr) : Prop := ∀ q ∈ f, okS q.1 = true
theorem okDs_map {α : Type} {n : Nat} {f : α → D} : ∀ {xs : List α}, (∀ x ∈ xs, okD n (f x) = true) → okDs n (xs.map f) = true
  | [], _ => by cases n <;> rfl
  | x :: xs, h => by
    have h2 := okDs_map (n := n) (f := f) (xs := xs) fun y hy => h y (List.mem_cons_of_mem _ hy)
    simp only [List.map_cons, okDs, h x (by simp), h2, Bool.and_self]
theorem okD_str {n : Nat} {x : List Nat} (h : okS x = true) : okD n (.str x) = true := by cases n <;> simpa [okD, okS] using h
theorem leaf_ok {n : Nat} {k : Int} {f : Fr} (hf : okF f) (hfl : f.length < 1000) (hc : c < S.length) (hk : 0 ≤ k) (hk2 : k < 900000) (hl : ns.length ≤ 63) :
    ∃ s k', k ≤ k' ∧ k' ≤ k + 2 ∧ callN T W (n + 4) 8 [.ref c, freeD f] (tst S c ns k) = some (.val (enc s), tst S c ns k') ∧ ((∃ x, s = .fact x ∧ okS x = true) ∨ ∃ x, s = .wish x ∧ (x, false) ∈ f) := by
  have lc : ∀ a0 a2 a3 a4 S0, evE (callN T W (n + 3)) [a0, some (.val (freeD f)), a2, a3, a4] (.lc (.nm 3) [3, 4] (.tup [3, 4]) (.seq (.nm 1)) (.yes (.not (.nm 4)))) S0 = some (.new (.lst ((f.filter fun q => !q.2).map fun q => .str q.1)), S0) := fun a0 a2 a3 a4 S0 => by
    simp only [evE_lc, evI_seq, evE_nm, List.getElem?_cons_succ, List.getElem?_cons_zero, rdS_val, andThen_some, pur_val, itK_some, freeD, it_lst, withS_some, lcK_some]
    rw [lc_filS (p := fun q => !q.2) (q := fun q => .str q.1)]
    · rw [lcZ_some (by rw [List.length_map]; exact small_le (by have := List.length_filter_le (fun q : List Nat × Bool => !q.2) f; omega))]
    · intro x hx
      obtain ⟨y, b⟩ := x
      cases b <;> simp [lcStep, tgF, tgSet, wipeE, cdF, elF, sizeLine_val]
  obtain ⟨r4, g1, g2⟩ := nxt (W := W) (n := n) (k := k) (m := 4) hc hk (by omega) (by omega) hl
  obtain ⟨r4', g1', g2'⟩ := nxt (W := W) (n := n) (k := k + 1) (m := 4) hc (by omega) (by omega) (by omega) hl
  obtain ⟨r3, g3, g4⟩ := nxt (W := W) (n := n) (k := k) (m := 3) hc hk (by omega) (by omega) hl
  generalize hsome : (f.filter fun q => !q.2) = sm at lc
  have hmem : ∀ q ∈ sm, q.2 = false ∧ q ∈ f := fun q hq => by
    rw [← hsome] at hq
    have := List.mem_filter.mp hq
    exact ⟨by simpa using this.2, this.1⟩
  have ne : cmpD .ne (.lst (sm.map fun q => .str q.1)) (.lst []) = some (!sm.isEmpty) := by
    rw [cmp_ne]
    · cases sm <;> simp
    · simp only [okD]; exact okDs_map fun q hq => okD_str (hf q (hmem q hq).2)
    · decide
  generalize hL : (sm.map fun q => D.str q.1) = L at lc ne
  have fact : ∀ (r : Nat) (k0 : Int) (pre : Sms → Prop), (r : Int) < 4 → ∃ x, okS x = true ∧ L2.atI [D.str [112], .str [112, 113], .str [113], .str [122, 122]] (r : Int) = some (.str x) := fun r k0 _ hr => by
    have : r = 0 ∨ r = 1 ∨ r = 2 ∨ r = 3 := by omega
    rcases this with rfl | rfl | rfl | rfl <;> exact ⟨_, by decide, rfl⟩
  cases sm with
  | nil =>
    obtain ⟨x, hx, hx2⟩ := fact r4 k (fun _ => True) g1
    refine ⟨.fact x, k + 1, by omega, by omega, ?_, .inl ⟨x, rfl, hx⟩⟩
    refine call_rt (ρ := [some (.val (.ref c)), some (.val (freeD f)), none, none, none]) (b := b_l_leaf) T8 rfl rfl rfl ?_
    have hne : (([] : Fr).isEmpty) = true := rfl
    rw [hne] at ne
    simp [b_l_leaf, -evE_lc, lc, sizeLine_val, ne, g2, hx2, enc]
  | cons q sm =>
    by_cases hr3 : 0 < r3
    · -- a wish
      obtain ⟨rw_, w1, w2⟩ := nxt (W := W) (n := n) (k := k + 1) (m := ((q :: sm).length : Int)) hc (by omega) (by simp only [List.length_cons]; omega) (by omega) hl
      have hlt : rw_ < (q :: sm).length := by omega
      have hm := hmem ((q :: sm)[rw_]) (List.getElem_mem hlt)
      refine ⟨.wish ((q :: sm)[rw_]).1, k + 1 + 1, by omega, by omega, ?_, .inr ⟨_, rfl, ?_⟩⟩
      · refine call_rt (ρ := [some (.val (.ref c)), some (.val (freeD f)), none, none, none]) (b := b_l_leaf) T8 rfl rfl rfl ?_
        have ix : ixD (.lst ((q :: sm).map fun q => .str q.1)) (.int (rw_ : Int)) = some (.str ((q :: sm)[rw_]).1) := by
          rw [ix_lst, atI_nat', List.getElem?_map, List.getElem?_eq_getElem hlt]; rfl
        generalize (q :: sm)[rw_] = qq at ix
        rw [hL] at ix
        have hLl : ((L.length : Nat) : Int) = ((q :: sm).length : Int) := by rw [← hL, List.length_map]
        rw [← hLl] at w2
        have hne : ((q :: sm).isEmpty) = false := rfl
        rw [hne] at ne
        simp only [ix_lst] at ix
        simp [b_l_leaf, -evE_lc, lc, sizeLine_val, ne, g4, hr3, w2, ix, enc]
      · rw [← hm.1]; exact hm.2
    · obtain ⟨x, hx, hx2⟩ := fact r4' k (fun _ => True) g1'
      refine ⟨.fact x, k + 1 + 1, by omega, by omega, ?_, .inl ⟨x, rfl, hx⟩⟩
      refine call_rt (ρ := [some (.val (.ref c)), some (.val (freeD f)), none, none, none]) (b := b_l_leaf) T8 rfl rfl rfl ?_
      have hne : ((q :: sm).isEmpty) = false := rfl
      rw [hne] at ne
      have hr0 : r3 = 0 := by omega
      subst hr0
      simp [b_l_leaf, -evE_lc, lc, sizeLine_val, ne, g4, g2', hx2, enc]
end K09
namespace K09
open PySem Ds
variable {W : Nat} {S : Sto} {c : Nat} {ns : List Int}
theorem nxt' {n : Nat} {k m : Int} (hn : 3 ≤ n) (hc : c < S.length) (hk : 0 ≤ k) (hm : 0 < m) (hk2 : k < 1000000) (hl : ns.length ≤ 63) :
    ∃ r : Nat, (r : Int) < m ∧ callN T W n 5 [.ref c, .int m] (tst S c ns k) = some (.val (.int r), tst S c ns (k + 1)) := by
  obtain ⟨j, rfl⟩ : ∃ j, n = j + 3 := ⟨n - 3, by omega⟩
  exact nxt hc hk hm hk2 hl
theorem hands_ok' {n : Nat} {k : Int} (hn : 4 ≤ n) (hc : c < S.length) (hk : 0 ≤ k) (hk2 : k < 1000000) (hl : ns.length ≤ 63) :
    ∃ h, okD 2 h = true ∧ callN T W n 6 [.ref c] (tst S c ns k) = some (.val h, tst S c ns (k + 1)) := by
  obtain ⟨j, rfl⟩ : ∃ j, n = j + 4 := ⟨n - 4, by omega⟩
  exact hands_ok hc hk hk2 hl
theorem step_ok' {n : Nat} {k : Int} (hn : 5 ≤ n) (hc : c < S.length) (hk : 0 ≤ k) (hk2 : k < 900000) (hl : ns.length ≤ 63) :
    ∃ p k', okD 3 p = true ∧ k ≤ k' ∧ k' ≤ k + 2 ∧ callN T W n 7 [.ref c] (tst S c ns k) = some (.val p, tst S c ns k') := by
  obtain ⟨j, rfl⟩ : ∃ j, n = j + 5 := ⟨n - 5, by omega⟩
  exact step_ok hc hk hk2 hl
theorem leaf_ok' {n : Nat} {k : Int} {f : Fr} (hn : 4 ≤ n) (hf : okF f) (hfl : f.length < 1000) (hc : c < S.length) (hk : 0 ≤ k) (hk2 : k < 900000) (hl : ns.length ≤ 63) :
    ∃ s k', k ≤ k' ∧ k' ≤ k + 2 ∧ callN T W n 8 [.ref c, freeD f] (tst S c ns k) = some (.val (enc s), tst S c ns k') ∧ ((∃ x, s = .fact x ∧ okS x = true) ∨ ∃ x, s = .wish x ∧ (x, false) ∈ f) := by
  obtain ⟨j, rfl⟩ : ∃ j, n = j + 4 := ⟨n - 4, by omega⟩
  exact leaf_ok hf hfl hc hk hk2 hl
def menu : Bool → Nat → List Nat
  | false, 0 => [120] | false, 1 => [120, 121] | false, _ => [121]
  | true, 0 => [112] | true, 1 => [112, 113] | true, _ => [113]
theorem menu_inj {a b : Bool} {i j : Nat} (hi : i < 3) (hj : j < 3) (h : menu a i = menu b j) : i = j := by
  have h1 : i = 0 ∨ i = 1 ∨ i = 2 := by omega
  have h2 : j = 0 ∨ j = 1 ∨ j = 2 := by omega
  rcases h1 with rfl | rfl | rfl <;> rcases h2 with rfl | rfl | rfl <;> cases a <;> cases b <;> simp [menu] at h <;> rfl
def Below (bd : Nat) (x : List Nat) : Prop := ∃ i m, i < bd ∧ x = menu m i
theorem below_ok {bd : Nat} {x : List Nat} (hb : bd ≤ 3) (h : Below bd x) : okS x = true := by
  obtain ⟨i, m, h1, rfl⟩ := h
  have h2 : i = 0 ∨ i = 1 ∨ i = 2 := by omega
  rcases h2 with rfl | rfl | rfl <;> cases m <;> decide
def okSn : Sn → Prop
  | .fact x => okS x = true
  | .wish x => okS x = true
  | .nt s => okSn s
  | .two _ s t => okSn s ∧ okSn t
  | .stp _ p s => okD 3 p = true ∧ okSn s
  | .bnd _ x s => okS x = true ∧ okSn s
  | .shw h s t => okD 2 h = true ∧ okSn s ∧ okSn t
def flf (f : Fr) : Fr := f.map fun q => (q.1, !q.2)
def wfn : Fr → Sn → Prop
  | _, .fact _ => True
  | f, .wish x => ∀ o, (x, o) ∈ f → o = false
  | f, .nt s => wfn (flf f) s
  | f, .two _ s t => wfn f s ∧ wfn f t
  | f, .stp _ _ s => wfn f s
  | f, .bnd _ x s => wfn (f ++ [(x, false)]) s
  | f, .shw _ s t => wfn f s ∧ wfn f t
def FrOk (f : Fr) (bd : Nat) : Prop := ∀ q ∈ f, Below bd q.1
def CtxOk (f : Fr) (bd : Nat) (ctx : Fr) : Prop := (∀ x b, (x, b) ∈ f → ∀ o, (x, o) ∈ ctx → o = b) ∧ FrOk ctx bd
theorem mem_flf {f : Fr} {x : List Nat} {b : Bool} : (x, b) ∈ flf f ↔ (x, !b) ∈ f := by
  unfold flf
  constructor
  · intro h
    obtain ⟨⟨y, d⟩, h1, h2⟩ := List.mem_map.mp h
    cases h2
    simpa using h1
  · intro h
    exact List.mem_map.mpr ⟨(x, !b), h, by simp⟩
theorem fr_flf {f : Fr} {bd : Nat} (h : FrOk f bd) : FrOk (flf f) bd := fun q hq => by
  obtain ⟨x, b⟩ := q
  exact h (x, !b) (mem_flf.mp hq)
theorem ctx_flf {f ctx : Fr} {bd : Nat} (h : CtxOk f bd ctx) : CtxOk (flf f) bd (flf ctx) := ⟨fun x b hb o ho => by
  have := h.1 x _ (mem_flf.mp hb) _ (mem_flf.mp ho)
  cases o <;> cases b <;> simp_all, fr_flf h.2⟩
theorem fr_add {f : Fr} {bd : Nat} {m : Bool} (h : FrOk f bd) : FrOk (f ++ [(menu m bd, false)]) (bd + 1) := fun q hq => by
  rcases List.mem_append.mp hq with hq | hq
  · obtain ⟨i, m', h1, h2⟩ := h q hq
    exact ⟨i, m', by omega, h2⟩
  · simp at hq; subst hq; exact ⟨bd, m, by omega, rfl⟩
theorem ctx_add {f ctx : Fr} {bd : Nat} {m : Bool} (hb : bd < 3) (hf : FrOk f bd) (h : CtxOk f bd ctx) : CtxOk (f ++ [(menu m bd, false)]) (bd + 1) (ctx ++ [(menu m bd, false)]) := by
  have no : ∀ x, Below bd x → x ≠ menu m bd := fun x ⟨i, m', h1, h2⟩ e => by
    have := menu_inj (by omega) hb (h2.symm.trans e)
    omega
  refine ⟨fun x b hx o ho => ?_, fr_add h.2⟩
  rcases List.mem_append.mp hx with hx | hx
  · rcases List.mem_append.mp ho with ho | ho
    · exact h.1 x b hx o ho
    · simp only [List.mem_singleton, Prod.mk.injEq] at ho
      exact (no x (hf _ hx) ho.1).elim
  · simp only [List.mem_singleton, Prod.mk.injEq] at hx
    rcases List.mem_append.mp ho with ho | ho
    · exact (no x (h.2 _ ho) hx.1).elim
    · simp only [List.mem_singleton, Prod.mk.injEq] at ho
      rw [hx.2, ho.2]
theorem flpF_ok {C : Orc} {S : Sto} {a0 a1 a3 a4 a5 a6 a7 a8 a9 a10 a11 a12 a13 : Option R} {f : Fr} (hl : f.length < 1000) :
    evE C [a0, a1, some (.val (freeD f)), a3, a4, a5, a6, a7, a8, a9, a10, a11, a12, a13] (.lc (.tup (.cons (.nm 6) (.cons (.not (.nm 13)) .nil))) [6, 13] (.tup [6, 13]) (.seq (.nm 2)) .no) S = some (.new (freeD (flf f)), S) := by
  simp only [evE_lc, evI_seq, evE_nm, List.getElem?_cons_succ, List.getElem?_cons_zero, rdS_val, andThen_some, pur_val, itK_some, freeD, it_lst, withS_some, lcK_some]
  rw [lc_mapS (q := fun q => .tup [.str q.1, .bl (!q.2)])]
  · rw [lcZ_some (by rw [List.length_map]; exact small_le (by omega))]
    simp [flf]
  · intro x hx
    simp [lcStep, tgF, tgSet, wipeE, cdF, elF, sizeLine_val]
def Got (fr : Fr) (bd : Nat) (z : Nat) (s : Sn) : Prop := sz s ≤ z ∧ okSn s ∧ ∀ ctx, CtxOk fr bd ctx → wfn ctx s
theorem sent_ok (hc : c < S.length) (hl : ns.length ≤ 63) : ∀ (z n : Nat) (k : Int) (fr : Fr) (bd sh : Nat), 1 ≤ z → z + 6 ≤ n → FrOk fr bd → fr.length ≤ bd → bd ≤ 3 → 0 ≤ k → k + 4 * z < 800000 →
    ∃ s k', callN T W n 9 [.ref c, .int z, freeD fr, .int bd, .int sh] (tst S c ns k) = some (.val (enc s), tst S c ns k') ∧ k ≤ k' ∧ k' ≤ k + 4 * z ∧ Got fr bd z s := by
  intro z
  induction z using Nat.strongRecOn with
  | ind z ih =>
    intro n k fr bd sh hz hn hfr hfl hbd hk hkz
    obtain ⟨n, rfl⟩ : ∃ j, n = j + 1 := ⟨n - 1, by omega⟩
    obtain ⟨r, r1, r2⟩ := nxt' (W := W) (n := n) (k := k) (m := 12) (by omega) hc hk (by omega) (by omega) hl
    have hokF : okF fr := fun q hq => below_ok hbd (hfr q hq)
    have go : ∀ s k', evSs (callN T W n) W [some (.val (.ref c)), some (.val (.int z)), some (.val (freeD fr)), some (.val (.int bd)), some (.val (.int sh)), none, none, none, none, none, none, none, none, none] b_l_sentence (tst S c ns k) = some (.rt (.val (enc s)), tst S c ns k') → k ≤ k' → k' ≤ k + 4 * z → Got fr bd z s →
        ∃ s k', callN T W (n + 1) 9 [.ref c, .int z, freeD fr, .int bd, .int sh] (tst S c ns k) = some (.val (enc s), tst S c ns k') ∧ k ≤ k' ∧ k' ≤ k + 4 * z ∧ Got fr bd z s :=
      fun s k' e a b d => ⟨s, k', call_rt T9 rfl rfl rfl e, a, b, d⟩
    by_cases c1 : z < 2 ∨ r = 0
    · -- a leaf
      obtain ⟨s, k', a1, a2, a3, a4⟩ := leaf_ok' (W := W) (n := n) (k := k + 1) (f := fr) (by omega) hokF (by omega) hc (by omega) (by omega) hl
      refine go s k' ?_ (by omega) (by omega) ?_
      · rcases c1 with c1 | c1
        · have c1' : (z : Int) < 2 := by omega
          simp [b_l_sentence, r2, c1, c1', a3]
        · subst c1
          by_cases c0 : z < 2
          · have c1' : (z : Int) < 2 := by omega
            simp [b_l_sentence, r2, c0, c1', a3]
          · have c1' : ¬ (z : Int) < 2 := by omega
            simp [b_l_sentence, r2, c0, c1', a3]
      · rcases a4 with ⟨x, rfl, hx⟩ | ⟨x, rfl, hx⟩
        · exact ⟨by simp [sz]; omega, hx, fun _ _ => trivial⟩
        · exact ⟨by simp [sz]; omega, hokF _ hx, fun ctx h o ho => h.1 x false hx o ho⟩
    · have z2 : ¬ z < 2 := fun q => c1 (.inl q)
      have z2' : ¬ (z : Int) < 2 := by omega
      have r0 : ¬ r = 0 := fun q => c1 (.inr q)
      have r0' : ((r : Int) == 0) = false := by simp; omega
      have e1 : (z : Int) - 1 = ((z - 1 : Nat) : Int) := by omega
      by_cases c2 : r = 1
      · -- not
        subst c2
        obtain ⟨s, k', a1, a2, a3, a4⟩ := ih (z - 1) (by omega) n (k + 1) (flf fr) bd sh (by omega) (by omega) (fr_flf hfr) (by simp [flf]; exact hfl) hbd (by omega) (by omega)
        refine go (.nt s) k' ?_ (by omega) (by omega) ⟨by simp [sz]; have := a4.1; omega, a4.2.1, fun ctx h => a4.2.2 _ (ctx_flf h)⟩
        have hf1000 : fr.length < 1000 := by omega
        simp [b_l_sentence, r2, z2, z2', -evE_lc, flpF_ok, hf1000, e1, a1, enc, sizeLine_val]
      · have r1' : ((r : Int) == 1) = false := by simp; omega
        by_cases c3 : r < 5 ∨ z < 3
        · -- a step
          obtain ⟨w, w1, w2⟩ := nxt' (W := W) (n := n) (k := k + 1) (m := 2) (by omega) hc (by omega) (by omega) (by omega) hl
          obtain ⟨p, k1, p1, p2, p3, p4⟩ := step_ok' (W := W) (n := n) (k := k + 1 + 1) (by omega) hc (by omega) (by omega) hl
          obtain ⟨s, k', a1, a2, a3, a4⟩ := ih (z - 1) (by omega) n k1 fr bd sh (by omega) (by omega) hfr hfl hbd (by omega) (by omega)
          have hw : L2.atI [D.str [115, 111, 109, 101], .str [101, 118, 101, 114, 121]] (w : Int) = some (.str (wS (decide (w = 0)))) := by
            have : w = 0 ∨ w = 1 := by omega
            rcases this with rfl | rfl <;> rfl
          refine go (.stp (decide (w = 0)) p s) k' ?_ (by omega) (by omega) ⟨by simp only [sz]; have := a4.1; omega, ⟨p1, a4.2.1⟩, fun ctx h => a4.2.2 _ h⟩
          have hcond : (decide ((r : Int) < 5) || decide ((z : Int) < 3)) = true := by
            rcases c3 with c | c
            · simp; left; omega
            · simp; right; omega
          by_cases c5 : r < 5
          · have c5' : (r : Int) < 5 := by omega
            simp [b_l_sentence, r2, z2, z2', r0, r0', c2, r1', c5, c5', w2, hw, p4, e1, a1, enc, sizeLine_val]
          · have c5' : ¬ (r : Int) < 5 := by omega
            have c6 : z < 3 := by omega
            have c6' : (z : Int) < 3 := by omega
            simp [b_l_sentence, r2, z2, z2', r0, r0', c2, r1', c5, c5', c6, c6', w2, hw, p4, e1, a1, enc, sizeLine_val]
        · have r5 : ¬ r < 5 := fun q => c3 (.inl q)
          have r5' : ¬ (r : Int) < 5 := by omega
          have z3 : ¬ z < 3 := fun q => c3 (.inr q)
          have z3' : ¬ (z : Int) < 3 := by omega
          by_cases c4 : r < 8 ∧ bd < 3
          · -- a binder
            obtain ⟨r8, b3⟩ := c4
            have r8' : (r : Int) < 8 := by omega
            have b3' : (bd : Int) < 3 := by omega
            obtain ⟨w, w1, w2⟩ := nxt' (W := W) (n := n) (k := k + 1) (m := 2) (by omega) hc (by omega) (by omega) (by omega) hl
            obtain ⟨m, hm⟩ : ∃ m : Bool, w = (if m then 1 else 0) := by
              have : w = 0 ∨ w = 1 := by omega
              rcases this with rfl | rfl
              · exact ⟨false, rfl⟩
              · exact ⟨true, rfl⟩
            have hx : ∃ L, L2.atI [D.lst [.str [120], .str [120, 121], .str [121]], .lst [.str [112], .str [112, 113], .str [113]]] (w : Int) = some (.lst L) ∧ L2.atI L (bd : Int) = some (.str (menu m bd)) := by
              have h2 : bd = 0 ∨ bd = 1 ∨ bd = 2 := by omega
              subst hm
              rcases h2 with rfl | rfl | rfl <;> cases m <;> exact ⟨_, rfl, rfl⟩
            obtain ⟨L, hx1, hx2⟩ := hx
            obtain ⟨B, hB⟩ : ∃ B, B = bd + 1 := ⟨_, rfl⟩
            have lk : ∀ S, look S (freeD fr) = freeD fr := fun _ => rfl
            obtain ⟨s, k', a1, a2, a3, a4⟩ := ih (z - 1) (by omega) n (k + 1 + 1) (fr ++ [(menu m bd, false)]) B sh (by omega) (by omega) (by rw [hB]; exact fr_add hfr) (by simp; omega) (by omega) (by omega) (by omega)
            obtain ⟨v, v1, v2⟩ := nxt' (W := W) (n := n) (k := k') (m := 2) (by omega) hc (by omega) (by omega) (by omega) hl
            have hv : L2.atI [D.str [108, 101, 97, 115, 116], .str [109, 111, 115, 116]] (v : Int) = some (.str (wB (decide (v = 0)))) := by
              have : v = 0 ∨ v = 1 := by omega
              rcases this with rfl | rfl <;> rfl
            have hmb : okS (menu m bd) = true := below_ok (bd := bd + 1) (by omega) ⟨bd, m, by omega, rfl⟩
            have hbd1 : (bd : Int) + 1 = (B : Int) := by omega
            have hfa : binD .add (freeD fr) (.lst [.tup [.str (menu m bd), .bl false]]) = some (.new (freeD (fr ++ [(menu m bd, false)]))) := by
              unfold freeD
              rw [bin_lst (small_le (by simp; omega))]
              simp
            refine go (.bnd (decide (v = 0)) (menu m bd) s) (k' + 1) ?_ (by omega) (by omega) ⟨by simp only [sz]; have := a4.1; omega, ⟨hmb, a4.2.1⟩, fun ctx h => a4.2.2 _ (by rw [hB]; exact ctx_add b3 hfr h)⟩
            simp [b_l_sentence, r2, z2, z2', r0, r0', c2, r1', r5, r5', z3, z3', r8, r8', b3, b3', w2, hx1, hx2, lk, hfa, hbd1, e1, a1, v2, hv, enc, sizeLine_val]
          · -- two parts
            obtain ⟨f, f1, f2⟩ := nxt' (W := W) (n := n) (k := k + 1) (m := (z : Int) - 2) (by omega) hc (by omega) (by omega) (by omega) hl
            obtain ⟨F, hF⟩ : ∃ F, F = 1 + f := ⟨_, rfl⟩
            obtain ⟨G, hG⟩ : ∃ G, G = z - 1 - F := ⟨_, rfl⟩
            have e2 : (1 : Int) + f = (F : Int) := by omega
            have e3 : (z : Int) - 1 - (F : Int) = (G : Int) := by omega
            have hcond : (r < 8 ∧ bd < 3) = False := by simp only [eq_iff_iff, iff_false]; exact c4
            have hcondI : ((r : Int) < 8 ∧ (bd : Int) < 3) = False := by
              simp only [eq_iff_iff, iff_false]; intro q; exact c4 ⟨by omega, by omega⟩
            by_cases c5 : r = 8 ∧ sh < 2
            · obtain ⟨r8, s2⟩ := c5
              subst r8
              have s2' : (sh : Int) < 2 := by omega
              obtain ⟨H, hH⟩ : ∃ H, H = sh + 1 := ⟨_, rfl⟩
              have hsh1 : (sh : Int) + 1 = (H : Int) := by omega
              have fr0 : FrOk [] bd := fun q h => by simp at h
              have cx0 : ∀ ctx, CtxOk fr bd ctx → CtxOk [] bd ctx := fun ctx h => ⟨fun x b h => by simp at h, h.2⟩
              obtain ⟨s, k1, a1, a2, a3, a4⟩ := ih F (by omega) n (k + 1 + 1) [] bd H (by omega) (by omega) fr0 (by simp) hbd (by omega) (by omega)
              obtain ⟨h, h1, h2⟩ := hands_ok' (W := W) (n := n) (k := k1) (by omega) hc (by omega) (by omega) hl
              obtain ⟨t, k', d1, d2, d3, d4⟩ := ih G (by omega) n (k1 + 1) [] bd H (by omega) (by omega) fr0 (by simp) hbd (by omega) (by omega)
              refine go (.shw h s t) k' ?_ (by omega) (by omega) ⟨by simp only [sz]; have := a4.1; have := d4.1; omega, ⟨h1, a4.2.1, d4.2.1⟩, fun ctx h => ⟨a4.2.2 _ (cx0 _ h), d4.2.2 _ (cx0 _ h)⟩⟩
              have hf0 : freeD [] = .lst [] := rfl
              rw [hf0] at a1 d1
              simp [b_l_sentence, r2, z2, z2', z3, z3', s2, s2', f2, e2, e3, hsh1, a1, h2, d1, enc, sizeLine_val]
            · obtain ⟨s, k1, a1, a2, a3, a4⟩ := ih F (by omega) n (k + 1 + 1) fr bd sh (by omega) (by omega) hfr hfl hbd (by omega) (by omega)
              obtain ⟨v, v1, v2⟩ := nxt' (W := W) (n := n) (k := k1) (m := 2) (by omega) hc (by omega) (by omega) (by omega) hl
              have hv : L2.atI [D.str [97, 110, 100], .str [111, 114]] (v : Int) = some (.str (w2 (decide (v = 0)))) := by
                have : v = 0 ∨ v = 1 := by omega
                rcases this with rfl | rfl <;> rfl
              obtain ⟨t, k', d1, d2, d3, d4⟩ := ih G (by omega) n (k1 + 1) fr bd sh (by omega) (by omega) hfr hfl hbd (by omega) (by omega)
              refine go (.two (decide (v = 0)) s t) k' ?_ (by omega) (by omega) ⟨by simp only [sz]; have := a4.1; have := d4.1; omega, ⟨a4.2.1, d4.2.1⟩, fun ctx h => ⟨a4.2.2 _ h, d4.2.2 _ h⟩⟩
              by_cases q8 : r < 8
              · have q8' : (r : Int) < 8 := by omega
                have b3 : ¬ bd < 3 := fun q => c4 ⟨q8, q⟩
                have b3' : ¬ (bd : Int) < 3 := by omega
                have n8 : ((r : Int) == 8) = false := by simp; omega
                have n8' : ¬ r = 8 := by omega
                simp [b_l_sentence, r2, z2, z2', r0, r0', c2, r1', r5, r5', z3, z3', q8, q8', b3, b3', n8, n8', f2, e2, e3, a1, v2, hv, d1, enc, sizeLine_val]
              · have q8' : ¬ (r : Int) < 8 := by omega
                by_cases n8 : r = 8
                · subst n8
                  have s2 : ¬ sh < 2 := fun q => c5 ⟨rfl, q⟩
                  have s2' : ¬ (sh : Int) < 2 := by omega
                  simp [b_l_sentence, r2, z2, z2', z3, z3', s2, s2', f2, e2, e3, a1, v2, hv, d1, enc, sizeLine_val]
                · have n8' : ((r : Int) == 8) = false := by simp; omega
                  simp [b_l_sentence, r2, z2, z2', r0, r0', c2, r1', r5, r5', z3, z3', q8, q8', n8, n8', f2, e2, e3, a1, v2, hv, d1, enc, sizeLine_val]
end K09
namespace K09
open PySem Ds
variable {W : Nat}
mutual
theorem okD_up : ∀ (n m : Nat) (d : D), n ≤ m → okD n d = true → okD m d = true
  | _, _, .non, _, _ => by simp [okD]
  | _, _, .bl _, _, _ => by simp [okD]
  | _, _, .int _, _, _ => by simp [okD]
  | n, m, .str x, _, h => by
    have : x.all (fun c => decide (c < 0x110000)) = true := by simpa [okD] using h
    simpa [okD] using this
  | 0, _, .tup xs, _, h => by simp [okD] at h
  | 0, _, .lst xs, _, h => by simp [okD] at h
  | n + 1, 0, .tup xs, h, _ => by omega
  | n + 1, 0, .lst xs, h, _ => by omega
  | n + 1, m + 1, .tup xs, h, k => by simp only [okD] at k ⊢; exact okDs_up n m xs (by omega) k
  | n + 1, m + 1, .lst xs, h, k => by simp only [okD] at k ⊢; exact okDs_up n m xs (by omega) k
  | _, _, .dct _ _, _, h => by simp [okD] at h
  | _, _, .fz _, _, h => by simp [okD] at h
  | _, _, .ref _, _, h => by simp [okD] at h
theorem okDs_up : ∀ (n m : Nat) (ds : List D), n ≤ m → okDs n ds = true → okDs m ds = true
  | _, _, [], _, _ => by simp [okDs]
  | n, m, x :: xs, h, k => by
    simp only [okDs, Bool.and_eq_true] at k ⊢
    exact ⟨okD_up n m x h k.1, okDs_up n m xs h k.2⟩
end
theorem okT2 {n : Nat} {a b : D} (h1 : okD n a = true) (h2 : okD n b = true) : okD (n + 1) (.tup [a, b]) = true := by
  simp only [okD]; rw [okDs, okDs, h1, h2, okDs]; rfl
theorem okT3 {n : Nat} {a b c : D} (h1 : okD n a = true) (h2 : okD n b = true) (h3 : okD n c = true) : okD (n + 1) (.tup [a, b, c]) = true := by
  simp only [okD]; rw [okDs, okDs, okDs, h1, h2, h3, okDs]; rfl
theorem okT4 {n : Nat} {a b c d : D} (h1 : okD n a = true) (h2 : okD n b = true) (h3 : okD n c = true) (h4 : okD n d = true) : okD (n + 1) (.tup [a, b, c, d]) = true := by
  simp only [okD]; rw [okDs, okDs, okDs, okDs, h1, h2, h3, h4, okDs]; rfl
theorem sz_pos (s : Sn) : 1 ≤ sz s := by cases s <;> simp [sz] <;> omega
theorem ok_enc : ∀ (s : Sn) (n : Nat), okSn s → sz s + 3 ≤ n → okD n (enc s) = true
  | s, 0, h, hn => by omega
  | .fact x, n + 1, h, hn => okT2 (okD_str (by decide)) (okD_str h)
  | .wish x, n + 1, h, hn => okT2 (okD_str (by decide)) (okD_str h)
  | .nt s, n + 1, h, hn => okT2 (okD_str (by decide)) (ok_enc s n h (by simp [sz] at hn; omega))
  | .two b s t, n + 1, h, hn => okT3 (okD_str (by cases b <;> decide)) (ok_enc s n h.1 (by simp [sz] at hn; omega)) (ok_enc t n h.2 (by simp [sz] at hn; omega))
  | .stp b p s, n + 1, h, hn => okT3 (okD_str (by cases b <;> decide)) (okD_up 3 n p (by simp [sz] at hn; have := sz_pos s; omega) h.1) (ok_enc s n h.2 (by simp [sz] at hn; omega))
  | .bnd b x s, n + 1, h, hn => okT3 (okD_str (by cases b <;> decide)) (okD_str h.1) (ok_enc s n h.2 (by simp [sz] at hn; omega))
  | .shw q s t, n + 1, h, hn => okT4 (okD_str (by decide)) (okD_up 2 n q (by simp [sz] at hn; have := sz_pos s; omega) h.1) (ok_enc s n h.2.1 (by simp [sz] at hn; omega)) (ok_enc t n h.2.2 (by simp [sz] at hn; omega))
def Nm (O : List (Od × Sn)) (od : Od) (f : Fr) : Prop := od.length = f.length ∧ ∀ (i : Nat) b o, od[i]? = some (b, o) → ∃ x q t ob, f[i]? = some (x, o) ∧ O[b]? = some (ob, .bnd q x t)
def Pl (O : List (Od × Sn)) (p : Od × Sn) : Prop := okSn p.2 ∧ sz p.2 < 60 ∧ ∃ f : Fr, Nm O p.1 f ∧ (∀ q ∈ f, okS q.1 = true) ∧ wfn f p.2
theorem nm_flp {O : List (Od × Sn)} {od : Od} {f : Fr} (h : Nm O od f) : Nm O (flp od) (flf f) := by
  refine ⟨by simp [flp, flf, h.1], fun i b o hi => ?_⟩
  simp only [flp, List.getElem?_map, Option.map_eq_some_iff, Prod.mk.injEq] at hi
  obtain ⟨⟨b', o'⟩, h1, h2, h3⟩ := hi
  simp only at h2 h3
  subst h2; subst h3
  obtain ⟨x, q, t, ob, e1, e2⟩ := h.2 i b' o' h1
  exact ⟨x, q, t, ob, by simp [flf, e1], e2⟩
theorem nm_add {O : List (Od × Sn)} {od : Od} {f : Fr} {b : Nat} {q : Bool} {x : List Nat} {t : Sn} {ob : Od} (h : Nm O od f) (hb : O[b]? = some (ob, .bnd q x t)) : Nm O (od ++ [(b, false)]) (f ++ [(x, false)]) := by
  refine ⟨by simp [h.1], fun i b' o hi => ?_⟩
  rcases Nat.lt_or_ge i od.length with l | l
  · rw [List.getElem?_append_left l] at hi
    obtain ⟨x', q', t', ob', e1, e2⟩ := h.2 i b' o hi
    exact ⟨x', q', t', ob', by rw [List.getElem?_append_left (by rw [← h.1]; exact l)]; exact e1, e2⟩
  · have : i = od.length := by
      have := Ds.lt_get hi
      simp at this; omega
    subst this
    simp at hi
    obtain ⟨rfl, rfl⟩ := hi
    exact ⟨x, q, t, ob, by rw [h.1]; simp, hb⟩
theorem pl_all {O : List (Od × Sn)} : ∀ (s : Sn) (od : Od) (f : Fr) (b : Nat), Nm O od f → (∀ q ∈ f, okS q.1 = true) → okSn s → sz s < 60 → wfn f s → (∀ (j : Nat) p, (oddsS s od b)[j]? = some p → O[b + j]? = some p) → ∀ p ∈ oddsS s od b, Pl O p
  | .fact x, od, f, b, hN, hf, hs, hz, hw, hO => fun p hp => by
    simp [oddsS] at hp; subst hp; exact ⟨hs, hz, f, hN, hf, hw⟩
  | .wish x, od, f, b, hN, hf, hs, hz, hw, hO => fun p hp => by
    simp [oddsS] at hp; subst hp; exact ⟨hs, hz, f, hN, hf, hw⟩
  | .nt s, od, f, b, hN, hf, hs, hz, hw, hO => fun p hp => by
    rcases List.mem_cons.mp hp with rfl | hp
    · exact ⟨hs, hz, f, hN, hf, hw⟩
    · exact pl_all s _ (flf f) (b + 1) (nm_flp hN) (fun q hq => by obtain ⟨x, o⟩ := q; exact hf (x, !o) (mem_flf.mp hq)) hs (by simp [sz] at hz; omega) hw (fun j p hj => by have := hO (j + 1) p (by simpa [oddsS] using hj); rw [← this]; congr 1; omega) p hp
  | .stp q pp s, od, f, b, hN, hf, hs, hz, hw, hO => fun p hp => by
    rcases List.mem_cons.mp hp with rfl | hp
    · exact ⟨hs, hz, f, hN, hf, hw⟩
    · exact pl_all s _ f (b + 1) hN hf hs.2 (by simp [sz] at hz; omega) hw (fun j p hj => by have := hO (j + 1) p (by simpa [oddsS] using hj); rw [← this]; congr 1; omega) p hp
  | .bnd q x s, od, f, b, hN, hf, hs, hz, hw, hO => fun p hp => by
    rcases List.mem_cons.mp hp with rfl | hp
    · exact ⟨hs, hz, f, hN, hf, hw⟩
    · refine pl_all s _ (f ++ [(x, false)]) (b + 1) (nm_add hN (hO 0 (od, .bnd q x s) (by simp [oddsS]))) (fun r hr => ?_) hs.2 (by simp [sz] at hz; omega) hw (fun j p hj => by have := hO (j + 1) p (by simpa [oddsS] using hj); rw [← this]; congr 1; omega) p hp
      rcases List.mem_append.mp hr with hr | hr
      · exact hf r hr
      · simp at hr; subst hr; exact hs.1
  | .two q s t, od, f, b, hN, hf, hs, hz, hw, hO => fun p hp => by
    have hl := odds_len s od (b + 1)
    rcases List.mem_cons.mp hp with rfl | hp
    · exact ⟨hs, hz, f, hN, hf, hw⟩
    · rcases List.mem_append.mp hp with hp | hp
      · exact pl_all s _ f (b + 1) hN hf hs.1 (by simp [sz] at hz; omega) hw.1 (fun j p hj => by
          have := hO (j + 1) p (by simp only [oddsS, List.getElem?_cons_succ]; rw [List.getElem?_append_left (Ds.lt_get hj)]; exact hj)
          rw [← this]; congr 1; omega) p hp
      · exact pl_all t _ f (b + 1 + sz s) hN hf hs.2 (by simp [sz] at hz; omega) hw.2 (fun j p hj => by
          have := hO (sz s + j + 1) p (by simp only [oddsS, List.getElem?_cons_succ]; rw [List.getElem?_append_right (by omega), hl, Nat.add_sub_cancel_left]; exact hj)
          rw [← this]; congr 1; omega) p hp
  | .shw q s t, od, f, b, hN, hf, hs, hz, hw, hO => fun p hp => by
    have hl := odds_len s od (b + 1)
    rcases List.mem_cons.mp hp with rfl | hp
    · exact ⟨hs, hz, f, hN, hf, hw⟩
    · rcases List.mem_append.mp hp with hp | hp
      · exact pl_all s _ f (b + 1) hN hf hs.2.1 (by simp [sz] at hz; omega) hw.1 (fun j p hj => by
          have := hO (j + 1) p (by simp only [oddsS, List.getElem?_cons_succ]; rw [List.getElem?_append_left (Ds.lt_get hj)]; exact hj)
          rw [← this]; congr 1; omega) p hp
      · exact pl_all t _ f (b + 1 + sz s) hN hf hs.2.2 (by simp [sz] at hz; omega) hw.2 (fun j p hj => by
          have := hO (sz s + j + 1) p (by simp only [oddsS, List.getElem?_cons_succ]; rw [List.getElem?_append_right (by omega), hl, Nat.add_sub_cancel_left]; exact hj)
          rw [← this]; congr 1; omega) p hp
theorem pair_ok {s : Sn} (hs : okSn s) (hz : sz s < 60) (hw : wfn [] s) {k bb : Nat} {od : Od} {odd : Bool} {one : Sn} (h : (oddsS s [] 0)[k]? = some (od, one)) (hm : (bb, odd) ∈ od) :
    okSn one ∧ ∃ ob q x t, (oddsS s [] 0)[bb]? = some (ob, .bnd q x t) ∧ okS x = true ∧ (one = .wish x → odd = false) := by
  obtain ⟨h1, h2, f, hN, hf, hw'⟩ := pl_all (O := oddsS s [] 0) s [] [] 0 ⟨rfl, fun i b o hi => by simp at hi⟩ (fun q hq => by simp at hq) hs hz hw (fun j p hj => by rw [Nat.zero_add]; exact hj) (od, one) (List.mem_of_getElem? h)
  obtain ⟨i, hi⟩ := List.getElem?_of_mem hm
  obtain ⟨x, q, t, ob, e1, e2⟩ := hN.2 i bb odd hi
  refine ⟨h1, ob, q, x, t, e2, hf _ (List.mem_of_getElem? e1), fun e => ?_⟩
  simp only at hw'
  subst e
  exact hw' odd (List.mem_of_getElem? e1)
end K09
namespace Ds
open PySem
theorem loopF_ix {g : D → Env → Option Env} {b : Env → Sto → Option (Out × Sto)} (P : Nat → Env → Sto → Prop) : ∀ (xs : List D) (n : Nat) (ρ : Env) (S : Sto), P n ρ S → (∀ (i : Nat) x, xs[i]? = some x → ∀ ρ S, P (n + i) ρ S → ∃ ρ' ρ2 S2, g x ρ = some ρ' ∧ b ρ' S = some (.nx ρ2, S2) ∧ P (n + i + 1) ρ2 S2) →
    ∃ ρ2 S2, loopF g b xs ρ S = some (.nx ρ2, S2) ∧ P (n + xs.length) ρ2 S2
  | [], n, ρ, S, h, _ => ⟨ρ, S, rfl, h⟩
  | x :: xs, n, ρ, S, h, f => by
    obtain ⟨ρ', ρ2, S2, e1, e2, e3⟩ := f 0 x rfl ρ S h
    obtain ⟨ρ3, S3, e4, e5⟩ := loopF_ix P xs (n + 1) ρ2 S2 e3 (fun i y hy ρ S h => by
      have := f (i + 1) y (by simpa using hy) ρ S (by rw [show n + (i + 1) = n + 1 + i by omega]; exact h)
      rw [show n + (i + 1) + 1 = n + 1 + i + 1 by omega] at this
      exact this)
    exact ⟨ρ3, S3, by rw [loopF_nx e1 e2, e4], by rw [List.length_cons, show n + (xs.length + 1) = n + 1 + xs.length by omega]; exact e5⟩
@[simp] theorem cmp_neB {a b : Bool} : cmpD .ne (.bl a) (.bl b) = some (!(a == b)) := by rw [cmp_ne (by simp [okD]) (by simp [okD])]; simp
@[simp] theorem isDs_bl {b : Bool} : isDs (.bl b) [.bool] = some true := rfl
end Ds
namespace K09
open PySem Ds
def isW (x : List Nat) : Sn → Bool
  | .wish y => y == x
  | _ => false
theorem isW_eq {x : List Nat} {s : Sn} (h : isW x s = true) : s = .wish x := by
  cases s <;> simp_all [isW]
theorem eq_wish {one : Sn} {x : List Nat} (h : okSn one) (hz : sz one < 60) (hx : okS x = true) : cmpD .eq (enc one) (.tup [.str [119, 105, 115, 104], .str x]) = some (isW x one) := by
  rw [cmp_eq (ok_enc one 64 h (by omega)) (okT2 (okD_str (by decide)) (okD_str hx))]
  cases one with
  | two b s t => cases b <;> simp [enc, w2, isW]
  | stp b s t => cases b <;> simp [enc, wS, isW]
  | bnd b s t => cases b <;> simp [enc, wB, isW]
  | _ => simp [enc, isW]
abbrev bTruth : Sms := (.cons (.frz 3) (.cons (.asg (.nm 11) (.call 2 (.cons (.nm 3) (.cons (.nm 8) (.cons (.nm 5) (.cons (.nm 10) .nil)))))) (.cons (.iff (.or (.not (.isi (.nm 11) [.bool])) (.cmp .ne (.nm 11) (.cmp .ne (.nm 10) (.nm 9)))) (.cons (.ret (.lit (.bl false))) .nil) .nil) (.cons (.iff (.and (.cmp .eq (.nm 7) (.tup (.cons (.lit (.str [119, 105, 115, 104])) (.cons (.ix (.ix (.ix (.nm 4) (.nm 8)) (.lit (.int 1))) (.lit (.int 1))) .nil)))) (.cmp .ne (.nm 11) (.nm 10))) (.cons (.ret (.lit (.bl false))) .nil) .nil) .nil))))
theorem truth_ok {m : Nat} {S : Sto} {s : Sn} {c k bb : Nat} {od : Od} {odd : Bool} {one : Sn} {e0 e1 e2 e11 : Option R} {t : Bool} (hs : okSn s) (hz : sz s < 60) (hw : wfn [] s) (hS : S[c]? = some (.lst ((oddsS s [] 0).map pairD)))
    (h : (oddsS s [] 0)[k]? = some (od, one)) (hm : (bb, odd) ∈ od) :
    evSs (callN T 1000 (m + 3)) 1000 [e0, e1, e2, some (.val (enc s)), some (.val (.ref c)), some (.val (.int k)), some (.val (oddD od)), some (.val (enc one)), some (.val (.int bb)), some (.val (.bl odd)), some (.val (.bl t)), e11] bTruth S =
      some (.nx [e0, e1, e2, some (.val (enc s)), some (.val (.ref c)), some (.val (.int k)), some (.val (oddD od)), some (.val (enc one)), some (.val (.int bb)), some (.val (.bl odd)), some (.val (.bl t)), some (.val (.bl (t != odd)))], S) := by
  obtain ⟨h1, ⟨ob, q, x, u, h2, h3, h4⟩⟩ := pair_ok hs hz hw h hm
  have hz1 : sz one < 60 := by
    have := pl_all (O := oddsS s [] 0) s [] [] 0 ⟨rfl, fun i b o hi => by simp at hi⟩ (fun q hq => by simp at hq) hs hz hw (fun j p hj => by rw [Nat.zero_add]; exact hj) (od, one) (List.mem_of_getElem? h)
    exact this.2.1
  obtain ⟨r, hr, hr2⟩ : ∃ r, (rowsS s none 0 0)[k]? = some r ∧ r.1 = one := by
    have hk : k < (rowsS s none 0 0).length := by have := Ds.lt_get h; rw [odds_len] at this; rw [rows_len]; exact this
    obtain ⟨od', e1, _⟩ := rel s none 0 0 [] k _ (List.getElem?_eq_getElem hk)
    rw [h] at e1
    exact ⟨_, List.getElem?_eq_getElem hk, by cases e1; rfl⟩
  have sg := sign_ok (W := 1000) m S s (by omega) rfl t hr (by rw [hr2]; exact h) hm
  have lk : look S (.ref c) = .lst ((oddsS s [] 0).map pairD) := look_ref hS
  have eb : L2.atI ((oddsS s [] 0).map pairD) (bb : Int) = some (pairD (ob, .bnd q x u)) := by rw [atI_nat', List.getElem?_map, h2]; rfl
  have l1 : ∀ S, look S (pairD (ob, .bnd q x u)) = pairD (ob, .bnd q x u) := fun _ => rfl
  have l2 : ixD (pairD (ob, .bnd q x u)) (.int 1) = some (enc (.bnd q x u)) := by simp [pairD]
  have l3 : ∀ S, look S (enc (.bnd q x u)) = enc (.bnd q x u) := fun _ => rfl
  have l4 : ixD (enc (.bnd q x u)) (.int 1) = some (.str x) := by simp [enc]
  have l5 : ∀ S, look S (enc one) = enc one := fun _ => by cases one <;> rfl
  have ew := eq_wish h1 hz1 h3
  cases hi : isW x one with
  | false =>
    rw [hi] at ew
    cases t <;> cases odd <;> simp [sg, lk, eb, l1, l2, l3, l4, l5, ew, sizeLine_val]
  | true =>
    have := h4 (isW_eq hi)
    subst this
    rw [hi] at ew
    have e3 : (t != false) = t := by cases t <;> rfl
    rw [e3] at sg
    simp [sg, lk, eb, l1, l2, l3, l4, l5, ew, sizeLine_val]
abbrev bNum : Sms := (.cons (.asg (.tup [6, 7]) (.ix (.nm 4) (.nm 5))) (.cons (.fr (.tup [8, 9]) (.seq (.nm 6)) (.cons (.fr (.nm 10) (.seq (.tup (.cons (.lit (.bl true)) (.cons (.lit (.bl false)) .nil)))) bTruth) .nil)) .nil))
theorem num_ok {m : Nat} {S : Sto} {s : Sn} {c k : Nat} {e0 e1 e2 e6 e7 e8 e9 e10 e11 : Option R} (hs : okSn s) (hz : sz s < 60) (hw : wfn [] s) (hS : S[c]? = some (.lst ((oddsS s [] 0).map pairD)))
    (hk : k < sz s) : ∃ f6 f7 f8 f9 f10 f11,
    bdy (callN T 1000 (m + 3)) 1000 bNum [e0, e1, e2, some (.val (enc s)), some (.val (.ref c)), some (.val (.int k)), e6, e7, e8, e9, e10, e11] S =
      some (.nx [e0, e1, e2, some (.val (enc s)), some (.val (.ref c)), some (.val (.int k)), f6, f7, f8, f9, f10, f11], S) := by
  have lk : look S (.ref c) = .lst ((oddsS s [] 0).map pairD) := look_ref hS
  have hk' : k < (oddsS s [] 0).length := by rw [odds_len]; exact hk
  obtain ⟨⟨od, one⟩, hp⟩ : ∃ p, (oddsS s [] 0)[k]? = some p := ⟨_, List.getElem?_eq_getElem hk'⟩
  have eb : L2.atI ((oddsS s [] 0).map pairD) (k : Int) = some (.tup [oddD od, enc one]) := by rw [atI_nat', List.getElem?_map, hp]; rfl
  obtain ⟨ρ2, S2, h1, f8, f9, f10, f11, rfl, rfl⟩ := loopF_ix (g := tgF (.tup [8, 9])) (b := bdy (callN T 1000 (m + 3)) 1000 (.cons (.fr (.nm 10) (.seq (.tup (.cons (.lit (.bl true)) (.cons (.lit (.bl false)) .nil)))) bTruth) .nil))
    (fun _ ρ S' => ∃ f8 f9 f10 f11, ρ = [e0, e1, e2, some (.val (enc s)), some (.val (.ref c)), some (.val (.int k)), some (.val (oddD od)), some (.val (enc one)), f8, f9, f10, f11] ∧ S' = S)
    (od.map fun q => .tup [.int q.1, .bl q.2]) 0 [e0, e1, e2, some (.val (enc s)), some (.val (.ref c)), some (.val (.int k)), some (.val (oddD od)), some (.val (enc one)), e8, e9, e10, e11] S ⟨e8, e9, e10, e11, rfl, rfl⟩
    (fun i x hx ρ S' hP => by
      obtain ⟨g8, g9, g10, g11, rfl, rfl⟩ := hP
      rw [List.getElem?_map] at hx
      obtain ⟨⟨bb, odd⟩, hq, rfl⟩ := Option.map_eq_some_iff.mp hx
      have hm := List.mem_of_getElem? hq
      refine ⟨[e0, e1, e2, some (.val (enc s)), some (.val (.ref c)), some (.val (.int k)), some (.val (oddD od)), some (.val (enc one)), some (.val (.int bb)), some (.val (.bl odd)), g10, g11], _, S', by simp [tgF, tgSet], ?_, ⟨some (.val (.int bb)), some (.val (.bl odd)), some (.val (.bl false)), some (.val (.bl (false != odd))), rfl, rfl⟩⟩
      have t1 := fun e => truth_ok (m := m) (e0 := e0) (e1 := e1) (e2 := e2) (e11 := e) (t := true) hs hz hw hS hp hm
      have t2 := fun e => truth_ok (m := m) (e0 := e0) (e1 := e1) (e2 := e2) (e11 := e) (t := false) hs hz hw hS hp hm
      have lp := fun e => (loopF_nx (g := tgF (.nm 10)) (b := bdy (callN T 1000 (m + 3)) 1000 bTruth) (x := .bl true) (xs := [.bl false]) (ρ := [e0, e1, e2, some (.val (enc s)), some (.val (.ref c)), some (.val (.int k)), some (.val (oddD od)), some (.val (enc one)), some (.val (.int bb)), some (.val (.bl odd)), g10, e]) (S := S') rfl (t1 e)).trans (loopF_nx (xs := []) rfl (t2 _))
      simp only [bdy, evSs_cons, evS_fr, evI_seq, evE_tup, evA_cons, evA_nil, evE_lit, andThen_some, pur_val, frK_some, itK_some, it_tup]
      simp [sizeLine_val]
      rw [lp g11]
      simp)
  refine ⟨some (.val (oddD od)), some (.val (enc one)), f8, f9, f10, f11, ?_⟩
  have lk2 : itemsOf (oddD od) = some (od.map fun q => .tup [.int q.1, .bl q.2]) := rfl
  have lk3 : ∀ S, look S (oddD od) = oddD od := fun _ => rfl
  simp [bdy, lk, eb, tgSet, lk2, lk3, h1]
abbrev bK : Sms := (.cons (.frz 1) (.cons (.asg (.nm 3) (.call 9 (.cons (.nm 1) (.cons (.bin .add (.lit (.int 1)) (.call 5 (.cons (.nm 1) (.cons (.lit (.int 30)) .nil)))) (.cons (.lst .nil) (.cons (.lit (.int 0)) (.cons (.lit (.int 0)) .nil))))))) (.cons (.new 4 (.lst .nil)) (.cons (.frz 3) (.cons (.frz 4) (.cons (.ex (.call 10 (.cons (.nm 3) (.cons (.lst .nil) (.cons (.nm 4) .nil))))) (.cons (.fr (.nm 5) (.rng1 (.bi .len (.nm 4))) bNum) .nil)))))))
theorem rng_sm {n : Nat} (h : n < 1000) : rng1D (.int (n : Int)) = some (rngL 0 n) := by
  have : -(2 ^ 62) ≤ (n : Int) ∧ (n : Int) < 2 ^ 62 := ⟨by omega, by omega⟩
  simp only [rng1D]; rw [if_pos this, Int.toNat_natCast]
theorem evI_len {C : Orc} {ρ : Ds.Env} {a : Ex} {S S1 : Sto} {n : Nat} (h : evE C ρ a S = some (.val (.int (n : Int)), S1)) (hn : n < 1000) : evI C ρ (.rng1 a) S = some (rngL 0 n, S1) := by
  rw [evI_rng1, h, andThen_some, any_val, rng_sm hn]; rfl
theorem k_ok {ns : List Int} (hl : ns.length ≤ 63) {k : Int} {R : Sto} (hk : 0 ≤ k) (hk2 : k < 10000) {e0 e2 e3 e4 e5 e6 e7 e8 e9 e10 e11 : Option Ds.R} : ∃ k' R' f3 f4 f5 f6 f7 f8 f9 f10 f11, k ≤ k' ∧ k' ≤ k + 200 ∧
    bdy (callN T 1000 59) 1000 bK [e0, some (.val (.ref 0)), e2, e3, e4, e5, e6, e7, e8, e9, e10, e11] (tape ns k :: R) = some (.nx [e0, some (.val (.ref 0)), e2, f3, f4, f5, f6, f7, f8, f9, f10, f11], tape ns k' :: R') := by
  obtain ⟨r, r1, r2⟩ := nxt' (W := 1000) (n := 59) (c := 0) (S := tape ns k :: R) (k := k) (m := 30) (by omega) (by simp) hk (by omega) (by omega) hl
  obtain ⟨z, hz⟩ : ∃ z, z = 1 + r := ⟨_, rfl⟩
  have e1 : (1 : Int) + r = (z : Int) := by omega
  obtain ⟨s, k', a1, a2, a3, a4⟩ := sent_ok (W := 1000) (c := 0) (S := tape ns k :: R) (ns := ns) (by simp) hl z 59 (k + 1) [] 0 0 (by omega) (by omega) (fun q h => by simp at h) (by simp) (by omega) (by omega) (by omega)
  obtain ⟨b1, b2, b3⟩ := a4
  have hs60 : sz s < 60 := by omega
  have hw : wfn [] s := b3 [] ⟨fun x b h => by simp at h, fun q h => by simp at h⟩
  have hf0 : freeD [] = .lst [] := rfl
  have t0 : ∀ k2, tst (tape ns k :: R) 0 ns k2 = tape ns k2 :: R := fun _ => rfl
  rw [t0, t0] at r2 a1
  have z0 : ((0 : Nat) : Int) = 0 := rfl
  rw [hf0, z0] at a1
  have wk := walk_ok (W := 1000) s [] [] ((tape ns k' :: R) ++ [.lst []]) (tape ns k' :: R).length 58 (by omega) (by simp) (by simp; omega) (by simp; omega)
  have hod : oddD [] = .lst [] := rfl
  rw [hod, List.nil_append] at wk
  have ln0 : ([] : List D).length = 0 := rfl
  rw [ln0] at wk
  obtain ⟨c, hc⟩ : ∃ c, c = (tape ns k' :: R).length := ⟨_, rfl⟩
  obtain ⟨S3, hS3⟩ : ∃ S3, S3 = ((tape ns k' :: R) ++ [D.lst []]).set c (.lst ((oddsS s [] 0).map pairD)) := ⟨_, rfl⟩
  have hget : S3[c]? = some (.lst ((oddsS s [] 0).map pairD)) := by rw [hS3, List.getElem?_set_self]; rw [hc]; simp
  obtain ⟨R', hR'⟩ : ∃ R', S3 = tape ns k' :: R' := ⟨_, by rw [hS3, hc]; rfl⟩
  obtain ⟨ρ2, S2, h1, f5, f6, f7, f8, f9, f10, f11, rfl, rfl⟩ := loopF_ix (g := tgF (.nm 5)) (b := bdy (callN T 1000 59) 1000 bNum)
    (fun _ ρ S' => ∃ f5 f6 f7 f8 f9 f10 f11, ρ = [e0, some (.val (.ref 0)), e2, some (.val (enc s)), some (.val (.ref c)), f5, f6, f7, f8, f9, f10, f11] ∧ S' = S3)
    (rngL 0 (sz s)) 0 [e0, some (.val (.ref 0)), e2, some (.val (enc s)), some (.val (.ref c)), e5, e6, e7, e8, e9, e10, e11] S3 ⟨e5, e6, e7, e8, e9, e10, e11, rfl, rfl⟩
    (fun i x hx ρ S' hP => by
      obtain ⟨g5, g6, g7, g8, g9, g10, g11, rfl, rfl⟩ := hP
      have hi : i < sz s := by have := Ds.lt_get hx; simpa [rngL] using this
      have hxx : x = .int (i : Int) := by
        simp only [rngL, List.getElem?_map, List.getElem?_range hi, Option.map_some, Option.some.injEq] at hx
        rw [← hx]; simp
      subst hxx
      obtain ⟨f6, f7, f8, f9, f10, f11, hn⟩ := num_ok (m := 56) (S := S') (e0 := e0) (e1 := some (.val (.ref 0))) (e2 := e2) (e6 := g6) (e7 := g7) (e8 := g8) (e9 := g9) (e10 := g10) (e11 := g11) b2 hs60 hw hget hi
      exact ⟨_, _, _, rfl, hn, ⟨_, _, _, _, _, _, _, rfl, rfl⟩⟩)
  refine ⟨k', R', some (.val (enc s)), some (.val (.ref c)), f5, f6, f7, f8, f9, f10, f11, by omega, by omega, ?_⟩
  rw [← hc, ← hS3] at wk
  have lk : look S2 (.ref c) = .lst ((oddsS s [] 0).map pairD) := look_ref hget
  rw [← hR']
  have hc2 : R.length + 1 = c := by rw [hc]; simp
  simp only [List.cons_append, Nat.reduceAdd] at wk
  simp only [bdy]
  generalize callN T 1000 59 = C at r2 a1 wk h1 ⊢
  have hlen : biD .len (look S2 (.ref c)) = some (.val (.int ((sz s : Nat) : Int))) := by
    rw [lk, bi_len_l, List.length_map, odds_len]
  have hI := evI_len (C := C) (ρ := [e0, some (.val (.ref 0)), e2, some (.val (enc s)), some (.val (.ref c)), e5, e6, e7, e8, e9, e10, e11]) (a := .bi .len (.nm 4)) (S := S2) (S1 := S2) (n := sz s) (by simp [hlen]) (by omega)
  simp [r2, e1, sizeLine_val, a1, wk, -evI_rng1, hI, hc2, h1]
theorem law_true : ∀ ns : List Int, ns.length ≤ 63 → ∃ S', callN (fs.map (·.fn)) 1000 60 11 [.fz (ns.map D.int)] [] = some (.val (.bl true), S') := by
  intro ns hl
  rw [T_eq]
  obtain ⟨ρ2, S2, h1, k, R, f2, f3, f4, f5, f6, f7, f8, f9, f10, f11, rfl, rfl, hk, hk2⟩ := loopF_ix (g := tgF (.nm 2)) (b := bdy (callN T 1000 59) 1000 bK)
    (fun i ρ S' => ∃ k R f2 f3 f4 f5 f6 f7 f8 f9 f10 f11, ρ = [some (.val (.fz (ns.map D.int))), some (.val (.ref 0)), f2, f3, f4, f5, f6, f7, f8, f9, f10, f11] ∧ S' = tape ns k :: R ∧ 0 ≤ k ∧ k ≤ 200 * i)
    (rngL 0 10) 0 [some (.val (.fz (ns.map D.int))), some (.val (.ref 0)), none, none, none, none, none, none, none, none, none, none] [tape ns 0] ⟨0, [], none, none, none, none, none, none, none, none, none, none, rfl, rfl, by omega, by omega⟩
    (fun i x hx ρ S' hP => by
      obtain ⟨k, R, g2, g3, g4, g5, g6, g7, g8, g9, g10, g11, rfl, rfl, hk, hk2⟩ := hP
      have hi : i < 10 := by have := Ds.lt_get hx; simpa [rngL] using this
      have tg : ∃ v, tgF (.nm 2) x [some (.val (.fz (ns.map D.int))), some (.val (.ref 0)), g2, g3, g4, g5, g6, g7, g8, g9, g10, g11] = some [some (.val (.fz (ns.map D.int))), some (.val (.ref 0)), v, g3, g4, g5, g6, g7, g8, g9, g10, g11] := ⟨_, rfl⟩
      obtain ⟨v, hv⟩ := tg
      obtain ⟨k', R', f3, f4, f5, f6, f7, f8, f9, f10, f11, q1, q2, q3⟩ := k_ok (ns := ns) hl (k := k) (R := R) hk (by omega) (e0 := some (.val (.fz (ns.map D.int)))) (e2 := v) (e3 := g3) (e4 := g4) (e5 := g5) (e6 := g6) (e7 := g7) (e8 := g8) (e9 := g9) (e10 := g10) (e11 := g11)
      exact ⟨_, _, _, hv, q3, ⟨k', R', v, f3, f4, f5, f6, f7, f8, f9, f10, f11, rfl, rfl, by omega, by omega⟩⟩)
  refine ⟨tape ns k :: R, call_rt (ρ := [some (.val (.fz (ns.map D.int))), none, none, none, none, none, none, none, none, none, none, none]) (b := b_law) T11 rfl rfl rfl ?_⟩
  have hrng : rng1D (.int 10) = some (rngL 0 10) := rfl
  have ht : (D.lst [.fz (ns.map D.int), .int 0]) = tape ns 0 := rfl
  generalize callN T 1000 59 = C at h1 ⊢
  simp [b_law, sizeLine_val, hrng, ht, h1]
end K09
namespace K09
open PySem L2 Ds PyProof.Rows
set_option maxHeartbeats 0 in
theorem all_mk {l : PySem.W.OpenLaw} {w : World} {K : PySem.W.Frag} {h : Heap} {mg : Str → Option Value} {fa : Addr} {Wf lev : Nat} (X : K.In h) (G : h.Ns mainGlobals mg) (hfa : mg "law" = some (.ref fa))
    (hL : ∀ ns : List Int, ns.length ≤ 63 → ∃ S', callN (fs.map (·.fn)) Wf lev 11 [.fz (ns.map D.int)] [] = some (.val (.bl true), S'))
    {od0 an0 : Option Addr} {sl0 : Array (Option Value)} {oc0 kV0 dc0 pm0 cd0 ct0 : Value} {f0 : Addr}
    {od1 an1 : Option Addr} {sl1 : Array (Option Value)} {oc1 kV1 dc1 pm1 cd1 ct1 : Value} {f1 : Addr}
    {od2 an2 : Option Addr} {sl2 : Array (Option Value)} {oc2 kV2 dc2 pm2 cd2 ct2 : Value} {f2 : Addr}
    {od3 an3 : Option Addr} {sl3 : Array (Option Value)} {oc3 kV3 dc3 pm3 cd3 ct3 : Value} {f3 : Addr}
    {od4 an4 : Option Addr} {sl4 : Array (Option Value)} {oc4 kV4 dc4 pm4 cd4 ct4 : Value} {f4 : Addr}
    {od5 an5 : Option Addr} {sl5 : Array (Option Value)} {oc5 kV5 dc5 pm5 cd5 ct5 : Value} {f5 : Addr}
    {od6 an6 : Option Addr} {sl6 : Array (Option Value)} {oc6 kV6 dc6 pm6 cd6 ct6 : Value} {f6 : Addr}
    {od7 an7 : Option Addr} {sl7 : Array (Option Value)} {oc7 kV7 dc7 pm7 cd7 ct7 : Value} {f7 : Addr}
    {od8 an8 : Option Addr} {sl8 : Array (Option Value)} {oc8 kV8 dc8 pm8 cd8 ct8 : Value} {f8 : Addr}
    {od9 an9 : Option Addr} {sl9 : Array (Option Value)} {oc9 kV9 dc9 pm9 cd9 ct9 : Value} {f9 : Addr}
    {od10 an10 : Option Addr} {sl10 : Array (Option Value)} {oc10 kV10 dc10 pm10 cd10 ct10 : Value} {f10 : Addr}
    {od11 an11 : Option Addr} {sl11 : Array (Option Value)} {oc11 kV11 dc11 pm11 cd11 ct11 : Value} {f11 : Addr}
    (a0 : PySem.W.nsIn K mainGlobals "parts_of" = some (some (.ref f0))) (l0 : K.lookup f0 = some ⟨oc0, od0, .func (PySem.W.fnOf "parts_of" "parts_of" (defArgs (topS 1)) (defBody (topS 1)) (defScope (topS 1)) .none kV0 dc0 pm0 an0 cd0 ct0), sl0⟩) (c0 : PySem.W.codeIn K cd0 "parts_of" = true) (k0 : PySem.W.keepIn K (.ref f0) = true)
    (a1 : PySem.W.nsIn K mainGlobals "rows_of" = some (some (.ref f1))) (l1 : K.lookup f1 = some ⟨oc1, od1, .func (PySem.W.fnOf "rows_of" "rows_of" (defArgs (topS 3)) (defBody (topS 3)) (defScope (topS 3)) .none kV1 dc1 pm1 an1 cd1 ct1), sl1⟩) (c1 : PySem.W.codeIn K cd1 "rows_of" = true) (k1 : PySem.W.keepIn K (.ref f1) = true)
    (a2 : PySem.W.nsIn K mainGlobals "sign_at" = some (some (.ref f2))) (l2 : K.lookup f2 = some ⟨oc2, od2, .func (PySem.W.fnOf "sign_at" "sign_at" (defArgs (topS 4)) (defBody (topS 4)) (defScope (topS 4)) .none kV2 dc2 pm2 an2 cd2 ct2), sl2⟩) (c2 : PySem.W.codeIn K cd2 "sign_at" = true) (k2 : PySem.W.keepIn K (.ref f2) = true)
    (a3 : PySem.W.nsIn K mainGlobals "_law_cell_at" = some (some (.ref f3))) (l3 : K.lookup f3 = some ⟨oc3, od3, .func (PySem.W.fnOf "_law_cell_at" "_law_cell_at" (defArgs (topS 6)) (defBody (topS 6)) (defScope (topS 6)) .none kV3 dc3 pm3 an3 cd3 ct3), sl3⟩) (c3 : PySem.W.codeIn K cd3 "_law_cell_at" = true) (k3 : PySem.W.keepIn K (.ref f3) = true)
    (a4 : PySem.W.nsIn K mainGlobals "_law_by" = some (some (.ref f4))) (l4 : K.lookup f4 = some ⟨oc4, od4, .func (PySem.W.fnOf "_law_by" "_law_by" (defArgs (topS 7)) (defBody (topS 7)) (defScope (topS 7)) .none kV4 dc4 pm4 an4 cd4 ct4), sl4⟩) (c4 : PySem.W.codeIn K cd4 "_law_by" = true) (k4 : PySem.W.keepIn K (.ref f4) = true)
    (a5 : PySem.W.nsIn K mainGlobals "_law_next" = some (some (.ref f5))) (l5 : K.lookup f5 = some ⟨oc5, od5, .func (PySem.W.fnOf "_law_next" "_law_next" (defArgs (topS 8)) (defBody (topS 8)) (defScope (topS 8)) .none kV5 dc5 pm5 an5 cd5 ct5), sl5⟩) (c5 : PySem.W.codeIn K cd5 "_law_next" = true) (k5 : PySem.W.keepIn K (.ref f5) = true)
    (a6 : PySem.W.nsIn K mainGlobals "_law_hands" = some (some (.ref f6))) (l6 : K.lookup f6 = some ⟨oc6, od6, .func (PySem.W.fnOf "_law_hands" "_law_hands" (defArgs (topS 9)) (defBody (topS 9)) (defScope (topS 9)) .none kV6 dc6 pm6 an6 cd6 ct6), sl6⟩) (c6 : PySem.W.codeIn K cd6 "_law_hands" = true) (k6 : PySem.W.keepIn K (.ref f6) = true)
    (a7 : PySem.W.nsIn K mainGlobals "_law_step" = some (some (.ref f7))) (l7 : K.lookup f7 = some ⟨oc7, od7, .func (PySem.W.fnOf "_law_step" "_law_step" (defArgs (topS 10)) (defBody (topS 10)) (defScope (topS 10)) .none kV7 dc7 pm7 an7 cd7 ct7), sl7⟩) (c7 : PySem.W.codeIn K cd7 "_law_step" = true) (k7 : PySem.W.keepIn K (.ref f7) = true)
    (a8 : PySem.W.nsIn K mainGlobals "_law_leaf" = some (some (.ref f8))) (l8 : K.lookup f8 = some ⟨oc8, od8, .func (PySem.W.fnOf "_law_leaf" "_law_leaf" (defArgs (topS 11)) (defBody (topS 11)) (defScope (topS 11)) .none kV8 dc8 pm8 an8 cd8 ct8), sl8⟩) (c8 : PySem.W.codeIn K cd8 "_law_leaf" = true) (k8 : PySem.W.keepIn K (.ref f8) = true)
    (a9 : PySem.W.nsIn K mainGlobals "_law_sentence" = some (some (.ref f9))) (l9 : K.lookup f9 = some ⟨oc9, od9, .func (PySem.W.fnOf "_law_sentence" "_law_sentence" (defArgs (topS 12)) (defBody (topS 12)) (defScope (topS 12)) .none kV9 dc9 pm9 an9 cd9 ct9), sl9⟩) (c9 : PySem.W.codeIn K cd9 "_law_sentence" = true) (k9 : PySem.W.keepIn K (.ref f9) = true)
    (a10 : PySem.W.nsIn K mainGlobals "_law_walked" = some (some (.ref f10))) (l10 : K.lookup f10 = some ⟨oc10, od10, .func (PySem.W.fnOf "_law_walked" "_law_walked" (defArgs (topS 13)) (defBody (topS 13)) (defScope (topS 13)) .none kV10 dc10 pm10 an10 cd10 ct10), sl10⟩) (c10 : PySem.W.codeIn K cd10 "_law_walked" = true) (k10 : PySem.W.keepIn K (.ref f10) = true)
    (a11 : PySem.W.nsIn K mainGlobals "law" = some (some (.ref f11))) (l11 : K.lookup f11 = some ⟨oc11, od11, .func (PySem.W.fnOf "law" "law" (defArgs (topS 14)) (defBody (topS 14)) (defScope (topS 14)) .none kV11 dc11 pm11 an11 cd11 ct11), sl11⟩) (c11 : PySem.W.codeIn K cd11 "law" = true) (k11 : PySem.W.keepIn K (.ref f11) = true)
    (z0 : PySem.W.nsIn K mainGlobals "bool" = some none)
    (z1 : PySem.W.nsIn K mainGlobals "isinstance" = some none)
    (z2 : PySem.W.nsIn K mainGlobals "len" = some none)
    (z3 : PySem.W.nsIn K mainGlobals "range" = some none)
    : ∃ fd : FuncData, (∀ (s : Shared) (v : Value), BindsTo s fd ⟨[v], []⟩ [("_law_script", v)]) ∧ ∀ base : Heap, K.In base → base.Ns mainGlobals mg → FnOk l.prog w K mg base CX0 lev fa fd ["_law_script"] (Ds.spLaw K) := by
  have e := hfa.symm.trans (PySem.W.mg_of X G a11)
  cases e
  have F0 := fun_mk (st := topS 1) l0 c0 k0
  have B0 := F0.binds (ps := ["sentence"]) fun _ _ _ _ _ _ us hl => match us, hl with | [_], _ => rfl
  have A0 : PAt K mg p_parts_of _ _ := ⟨F0, PySem.W.mg_of X G a0, B0⟩
  have F1 := fun_mk (st := topS 3) l1 c1 k1
  have B1 := F1.binds (ps := ["sentence"]) fun _ _ _ _ _ _ us hl => match us, hl with | [_], _ => rfl
  have A1 : PAt K mg p_rows_of _ _ := ⟨F1, PySem.W.mg_of X G a1, B1⟩
  have F2 := fun_mk (st := topS 4) l2 c2 k2
  have B2 := F2.binds (ps := ["sentence", "binder", "number", "truth"]) fun _ _ _ _ _ _ us hl => match us, hl with | [_, _, _, _], _ => rfl
  have A2 : PAt K mg p_sign_at _ _ := ⟨F2, PySem.W.mg_of X G a2, B2⟩
  have F3 := fun_mk (st := topS 6) l3 c3 k3
  have B3 := F3.binds (ps := ["_law_script", "_law_k"]) fun _ _ _ _ _ _ us hl => match us, hl with | [_, _], _ => rfl
  have A3 : PAt K mg p_l_cell_at _ _ := ⟨F3, PySem.W.mg_of X G a3, B3⟩
  have F4 := fun_mk (st := topS 7) l4 c4 k4
  have B4 := F4.binds (ps := ["_law_script", "_law_k", "_law_many"]) fun _ _ _ _ _ _ us hl => match us, hl with | [_, _, _], _ => rfl
  have A4 : PAt K mg p_l_by _ _ := ⟨F4, PySem.W.mg_of X G a4, B4⟩
  have F5 := fun_mk (st := topS 8) l5 c5 k5
  have B5 := F5.binds (ps := ["_law_tape", "_law_many"]) fun _ _ _ _ _ _ us hl => match us, hl with | [_, _], _ => rfl
  have A5 : PAt K mg p_l_next _ _ := ⟨F5, PySem.W.mg_of X G a5, B5⟩
  have F6 := fun_mk (st := topS 9) l6 c6 k6
  have B6 := F6.binds (ps := ["_law_tape"]) fun _ _ _ _ _ _ us hl => match us, hl with | [_], _ => rfl
  have A6 : PAt K mg p_l_hands _ _ := ⟨F6, PySem.W.mg_of X G a6, B6⟩
  have F7 := fun_mk (st := topS 10) l7 c7 k7
  have B7 := F7.binds (ps := ["_law_tape"]) fun _ _ _ _ _ _ us hl => match us, hl with | [_], _ => rfl
  have A7 : PAt K mg p_l_step _ _ := ⟨F7, PySem.W.mg_of X G a7, B7⟩
  have F8 := fun_mk (st := topS 11) l8 c8 k8
  have B8 := F8.binds (ps := ["_law_tape", "_law_free"]) fun _ _ _ _ _ _ us hl => match us, hl with | [_, _], _ => rfl
  have A8 : PAt K mg p_l_leaf _ _ := ⟨F8, PySem.W.mg_of X G a8, B8⟩
  have F9 := fun_mk (st := topS 12) l9 c9 k9
  have B9 := F9.binds (ps := ["_law_tape", "_law_size", "_law_free", "_law_binders", "_law_shows"]) fun _ _ _ _ _ _ us hl => match us, hl with | [_, _, _, _, _], _ => rfl
  have A9 : PAt K mg p_l_sentence _ _ := ⟨F9, PySem.W.mg_of X G a9, B9⟩
  have F10 := fun_mk (st := topS 13) l10 c10 k10
  have B10 := F10.binds (ps := ["_law_sentence_here", "_law_odds", "_law_rows"]) fun _ _ _ _ _ _ us hl => match us, hl with | [_, _, _], _ => rfl
  have A10 : PAt K mg p_l_walked _ _ := ⟨F10, PySem.W.mg_of X G a10, B10⟩
  have F11 := fun_mk (st := topS 14) l11 c11 k11
  have B11 := F11.binds (ps := ["_law_script"]) fun _ _ _ _ _ _ us hl => match us, hl with | [_], _ => rfl
  have A11 : PAt K mg p_law _ _ := ⟨F11, PySem.W.mg_of X G a11, B11⟩
  have hE : ∀ (i : Nat) p, fs[i]? = some p → ∃ f fd, PAt K mg p f fd := by
    intro i p hp
    match i, hp with
    | 0, hp => cases hp; exact ⟨_, _, A0⟩
    | 1, hp => cases hp; exact ⟨_, _, A1⟩
    | 2, hp => cases hp; exact ⟨_, _, A2⟩
    | 3, hp => cases hp; exact ⟨_, _, A3⟩
    | 4, hp => cases hp; exact ⟨_, _, A4⟩
    | 5, hp => cases hp; exact ⟨_, _, A5⟩
    | 6, hp => cases hp; exact ⟨_, _, A6⟩
    | 7, hp => cases hp; exact ⟨_, _, A7⟩
    | 8, hp => cases hp; exact ⟨_, _, A8⟩
    | 9, hp => cases hp; exact ⟨_, _, A9⟩
    | 10, hp => cases hp; exact ⟨_, _, A10⟩
    | 11, hp => cases hp; exact ⟨_, _, A11⟩
    | _ + 12, hp => simp [fs] at hp
  have hbl : ∀ x ∈ bl, mg x = none := by
    intro x hx
    simp only [bl, List.mem_cons, List.not_mem_nil, or_false] at hx
    rcases hx with rfl | rfl | rfl | rfl
    · exact PySem.W.mg_none_of X G z0
    · exact PySem.W.mg_none_of X G z1
    · exact PySem.W.mg_none_of X G z2
    · exact PySem.W.mg_none_of X G z3
  have hcs : ∀ x d, cs.lookup x = some d → ∃ u v, mg x = some u ∧ RelV v u ∧ ∀ ι F, Rep K ι F v d := by
    intro x d hx
    simp [cs] at hx
  exact ⟨PySem.W.fnOf "law" "law" (defArgs (topS 14)) (defBody (topS 14)) (defScope (topS 14)) .none kV11 dc11 pm11 an11 cd11 ct11, fun s v => .of_eq rfl, fun base _ _ => law_ok (P := l.prog) (w := w) (base := base) (fs := fs) (i := 11) (p := p_law) hE k_all hcs hbl rfl A11 hL⟩
end K09
open PySem PySem.W PyProof.Rows
set_option maxHeartbeats 0 in
theorem PySem.Challenge.cw_worldsay_k09_signs_holds : PySem.Challenge.rw_worldsay_k09_signs.Holds := by
  w_on; o_law; k_head; (case hw => w_witness2)
  k_fill
  refine L2.walk_ofK (l := PySem.Challenge.rw_worldsay_k09_signs) (n := 63) (k := 60) (x := "_law_script") (CX := L2.CX0) (sp := Ds.spLaw) rfl (by decide) rfl ⟨rfl, by decide, by decide⟩ (fun w h Y => PySem.W.kIn_of Y) ?F (fun K H a ns hl _ hS => ⟨a, ns, rfl, hS, hl, fun _ => rfl⟩) (fun _ _ _ _ h => h)
  case F =>
    intro w mg fa h KX G hmg
    refine' K09.all_mk (Wf := 1000) (lev := 60) KX G hmg K09.law_true ?a0 ?l0 ?c0 ?k0 ?a1 ?l1 ?c1 ?k1 ?a2 ?l2 ?c2 ?k2 ?a3 ?l3 ?c3 ?k3 ?a4 ?l4 ?c4 ?k4 ?a5 ?l5 ?c5 ?k5 ?a6 ?l6 ?c6 ?k6 ?a7 ?l7 ?c7 ?k7 ?a8 ?l8 ?c8 ?k8 ?a9 ?l9 ?c9 ?k9 ?a10 ?l10 ?c10 ?k10 ?a11 ?l11 ?c11 ?k11 ?z0 ?z1 ?z2 ?z3
    (case a0 => k_is); (case l0 => k_is); (case c0 => k_is); (case k0 => k_is); (case a1 => k_is); (case l1 => k_is); (case c1 => k_is); (case k1 => k_is); (case a2 => k_is); (case l2 => k_is); (case c2 => k_is); (case k2 => k_is); (case a3 => k_is); (case l3 => k_is); (case c3 => k_is); (case k3 => k_is); (case a4 => k_is); (case l4 => k_is); (case c4 => k_is); (case k4 => k_is); (case a5 => k_is); (case l5 => k_is); (case c5 => k_is); (case k5 => k_is); (case a6 => k_is); (case l6 => k_is); (case c6 => k_is); (case k6 => k_is); (case a7 => k_is); (case l7 => k_is); (case c7 => k_is); (case k7 => k_is); (case a8 => k_is); (case l8 => k_is); (case c8 => k_is); (case k8 => k_is); (case a9 => k_is); (case l9 => k_is); (case c9 => k_is); (case k9 => k_is); (case a10 => k_is); (case l10 => k_is); (case c10 => k_is); (case k10 => k_is); (case a11 => k_is); (case l11 => k_is); (case c11 => k_is); (case k11 => k_is); (case z0 => k_is); (case z1 => k_is); (case z2 => k_is); (case z3 => k_is)
