import PyProof.Rows.All
import Wide.All
import OpenK.AllK
import Wide.FinOn
import HandS.HeadHook2
import HandS.Walk
import HandS.ForMost
import HandS.Exc
import HandS.ExcOwn
import HandS.Deep
import HandS.Style
import HandS.IsInst
import HandS.TupAny
import HandS.TupMul
import HandS.Wide
import HandS.Zip
import HandS.Rev
import HandS.RevRange
import HandS.TryOnly
import HandS.Gcd
import HandS.Flow
import HandS.Lambda
import HandS.ExcIs
import HandS.HeadHook4
import HandS.HeadWalk
import HandS.Base
import KE.GoesMore
import PyProof.EnumMake
import KE.KStateDown
import HandS.Call
import HandS.Ends
import HandS.More
import HandS.Words
import HandS.WordsExc
import HandS.Defaults
import HandS.Head0
import HandS.Head1
import HandS.Head2
import HandS.HeadEnd
import HandS.HeadHook1
import Lean
import PySem.Challenge.RW_blendhouse_k52_exchanges_added_and_doubl
set_option Elab.async false
set_option linter.all false
section
set_option maxRecDepth 100000
namespace Pv
open PySem (Str)
inductive D where
  | non | bl (b : Bool) | int (i : Int) | str (s : Str)
  | tup (xs : List D) | lst (xs : List D)
  | dct (ks vs : List D) | set (xs : List D) | loc (n : Nat)
abbrev Sto := List D
abbrev En := List (Option D)
inductive Out (α : Type) where
  | ok (a : α) (s : Sto) | exc (c : Nat) (v : D) (s : Sto) | bad
@[inline] def Out.bind {α β : Type} (x : Out α) (f : α → Sto → Out β) : Out β :=
  match x with
  | .ok a s => f a s
  | .exc c v s => .exc c v s
  | .bad => .bad
inductive OutS where
  | nx (e : En) (s : Sto) | brk (e : En) (s : Sto) | cnt (e : En) (s : Sto)
  | ret (d : D) (s : Sto) | exc (c : Nat) (v : D) (e : En) (s : Sto) | bad
inductive Op where
  | add | sub | mul | fdiv | mod | pow
inductive Cp where
  | eq | ne | lt | le | gt | ge | isin | notin | is_ | isnot
inductive Ty where
  | int | bool | tuple | list | str | exc (c : Nat)
inductive BI where
  | len | abs | int | sum | min | max | all | any | tuple | list | sorted | gcd | comb
mutual
inductive CE where
  | var (i : Nat)
  | lit (d : D)
  | glo (x : Str) (d : D)
  | bin (o : Op) (a b : CE)
  | neg (a : CE)
  | cmp (o : Cp) (a b : CE)
  | chn (o p : Cp) (a b c : CE)
  | and (a b : CE) | or (a b : CE) | not (a : CE)
  | ite (c a b : CE)
  | tup (es : CEs) | lst (es : CEs)
  | idx (a i : CE)
  | slc (a : CE) (lo hi : CEs)
  | call (f : Nat) (es : CEs)
  | bi (b : BI) (es : CEs)
  | isi (a : CE) (t : Ty)
  | comp (own : List (Str × Nat)) (tg : Tg) (it : CI) (ifs : CEs) (elt : CE)
  | thaw (a : CE)
  | pop (o : CE) (es : CEs)
  | slr (a : CE)
  | tryL (d : D) (tb : List (Nat × D)) (b : CE)
  | callD (f : Nat) (es : CEs) (ds : List D)
inductive CEs where
  | nil | cons (e : CE) (r : CEs)
inductive CI where
  | of (e : CE) | range (es : CEs) | zip (a b : CE) | enum (a : CE) | rev (a : CE) | revr (es : CEs)
inductive Tg where
  | nm (i : Nat) | tp (ts : Tgs) | sub (o i : CE)
inductive Tgs where
  | nil | cons (t : Tg) (r : Tgs)
end
mutual
inductive CS where
  | exp (e : CE) | asg (t : Tg) (e : CE) | aug (i : Nat) (o : Op) (e : CE)
  | ret (e : CE) | ret0 | ife (c : CE) (a b : CSs)
  | for_ (t : Tg) (it : CI) (b : CSs) | whl (c : CE) (b : CSs)
  | brk | cnt | pas | rais (c : Nat) (m : Str)
  | app (o e : CE) | ext (o e : CE) | retL (e : CE) | nev
inductive CSs where
  | nil | cons (s : CS) (r : CSs)
end
/-! ### values -/
mutual
def noloc : D → Bool
  | .loc _ => false
  | .tup xs => nolocs xs
  | .lst xs => nolocs xs
  | .set xs => nolocs xs
  | .dct ks vs => nolocs ks && nolocs vs
  | _ => true
def nolocs : List D → Bool
  | [] => true
  | d :: r => noloc d && nolocs r
end
mutual
def below (n : Nat) : D → Bool
  | .loc m => decide (m < n)
  | .tup xs => belows n xs
  | .lst xs => belows n xs
  | .set xs => belows n xs
  | .dct ks vs => belows n ks && belows n vs
  | _ => true
def belows (n : Nat) : List D → Bool
  | [] => true
  | d :: r => below n d && belows n r
end
mutual
def fzD (n : Nat) (g : Nat → D) : D → D
  | .loc m => if m < n then .loc m else g m
  | .tup xs => .tup (fzDs n g xs)
  | .lst xs => .lst (fzDs n g xs)
  | .set xs => .set (fzDs n g xs)
  | .dct ks vs => .dct (fzDs n g ks) (fzDs n g vs)
  | d => d
def fzDs (n : Nat) (g : Nat → D) : List D → List D
  | [] => []
  | d :: r => fzD n g d :: fzDs n g r
end
def fzL (st : Sto) (n : Nat) : Nat → Nat → D
  | 0, m => .loc m
  | k + 1, m => fzD n (fzL st n k) (st.getD m .non)
def fz (n : Nat) (st : Sto) (d : D) : D := fzD n (fzL st n st.length) d
def rd (st : Sto) : D → D
  | .loc n => st.getD n .non
  | d => d
mutual
def eqv : D → D → Bool
  | .non, .non => true
  | .bl a, .bl b => a == b
  | .bl a, .int j => (if a then 1 else 0) == j
  | .int i, .bl b => i == (if b then 1 else 0)
  | .int i, .int j => i == j
  | .str x, .str y => x == y
  | .lst xs, .lst ys => eqvs xs ys
  | .tup xs, .tup ys => eqvs xs ys
  | _, _ => false
def eqvs : List D → List D → Bool
  | [], [] => true
  | x :: xs, y :: ys => eqv x y && eqvs xs ys
  | _, _ => false
end
mutual
def plain : Nat → D → Bool
  | _, .non => true
  | _, .bl _ => true
  | _, .int _ => true
  | _, .str x => x.cps.all (· < 0x110000)
  | k, .tup xs => match k with
    | 0 => false
    | k + 1 => plains k xs
  | k, .lst xs => match k with
    | 0 => false
    | k + 1 => plains k xs
  | _, _ => false
def plains : Nat → List D → Bool
  | _, [] => true
  | k, x :: r => plain k x && plains k r
end
mutual
def same : D → D → Bool
  | .non, .non => true
  | .bl a, .bl b => a == b
  | .int i, .int j => decide (i = j)
  | .str x, .str y => decide (x = y)
  | .tup xs, .tup ys => sames xs ys
  | .lst xs, .lst ys => sames xs ys
  | .set xs, .set ys => sames xs ys
  | .dct ks vs, .dct ks' vs' => sames ks ks' && sames vs vs'
  | .loc n, .loc m => decide (n = m)
  | _, _ => false
def sames : List D → List D → Bool
  | [], [] => true
  | x :: xs, y :: ys => same x y && sames xs ys
  | _, _ => false
end
/-! ### operations -/
def big : Nat := 16777216
def lift (x : Option D) (s : Sto) : Out D :=
  match x with
  | some d => .ok d s
  | none => .bad
def mulOk (i j : Int) : Bool := decide (-(2 ^ 64) < i ∧ i < 2 ^ 64) || decide (-(2 ^ 64) < j ∧ j < 2 ^ 64) || decide (i.natAbs.log2 + j.natAbs.log2 + 2 ≤ 1000000)
def divOk (j : Int) : Bool := decide (j ≠ 0) && decide (j.natAbs.log2 < 9000)
def fdivZ (i j : Int) : Int := if 0 < j then i / j else i.fdiv j
def modZ (i j : Int) : Int := if 0 < j then i % j else i.fmod j
def repD (k : Int) (xs : List D) : List D := (List.replicate k.toNat xs).flatten
def binD : Op → D → D → Option D
  | .add, .int i, .int j => some (.int (i + j))
  | .add, .tup xs, .tup ys => if xs.length + ys.length ≤ big then some (.tup (xs ++ ys)) else none
  | .add, .lst xs, .lst ys => if xs.length + ys.length ≤ big then some (.lst (xs ++ ys)) else none
  | .add, .str x, .str y => if x.length + y.length ≤ big then some (.str (x ++ y)) else none
  | .sub, .int i, .int j => some (.int (i - j))
  | .mul, .int i, .int j => if mulOk i j then some (.int (i * j)) else none
  | .mul, .tup xs, .int k => if xs.length ≤ 1000 ∧ k ≤ 1000 ∧ 1 ≤ k then some (.tup (repD k xs)) else none
  | .mul, .lst xs, .int k => if -(2 ^ 62) ≤ k ∧ k < 2 ^ 62 ∧ xs.length * k.toNat ≤ big then some (.lst (repD k xs)) else none
  | .fdiv, .int i, .int j => if divOk j then some (.int (fdivZ i j)) else none
  | .mod, .int i, .int j => if j ≠ 0 then some (.int (modZ i j)) else none
  | .pow, .int i, .int j => if 0 ≤ j ∧ j ≤ 1000000 ∧ i.natAbs < 2 ^ 64 then some (.int (i ^ j.toNat)) else none
  | _, _, _ => none
def intsD : List D → Option (List Int)
  | [] => some []
  | .int i :: r => (intsD r).map (i :: ·)
  | _ :: _ => none
def blsD : List D → Option (List Bool)
  | [] => some []
  | .bl i :: r => (blsD r).map (i :: ·)
  | _ :: _ => none
def lexLt : List Int → List Int → Bool
  | [], [] => false
  | [], _ :: _ => true
  | _ :: _, [] => false
  | a :: r, b :: t => if a = b then lexLt r t else decide (a < b)
def ltD : D → D → Option Bool
  | .int i, .int j => some (decide (i < j))
  | .str x, .str y => some (decide (x.cps.toList < y.cps.toList))
  | .tup xs, .tup ys => match intsD xs, intsD ys with
    | some ns, some ms => some (lexLt ns ms)
    | _, _ => none
  | _, _ => none
def eqD (a b : D) : Option Bool := if plain 60 a && plain 60 b then some (eqv a b) else none
def memD (a : D) : List D → Bool
  | [] => false
  | b :: r => eqv b a || memD a r
def inD (a b : D) : Option Bool :=
  match b with
  | .tup xs => if plain 60 a && plains 60 xs then some (memD a xs) else none
  | .lst xs => if plain 60 a && plains 60 xs then some (memD a xs) else none
  | _ => none
def isD : D → D → Option Bool
  | .non, .non => some true
  | .bl _, .non | .int _, .non | .str _, .non | .tup _, .non | .lst _, .non | .loc _, .non => some false
  | .bl a, .bl b => some (decide (a = b))
  | _, _ => none
def cmpD (o : Cp) (a b : D) : Option D :=
  match o with
  | .eq => (eqD a b).map .bl
  | .ne => (eqD a b).map fun k => .bl (!k)
  | .lt => (ltD a b).map .bl
  | .gt => match a, b with
    | .int i, .int j => some (.bl (decide (j < i)))
    | _, _ => none
  | .le => match a, b with
    | .int i, .int j => some (.bl (decide (i ≤ j)))
    | _, _ => none
  | .ge => match a, b with
    | .int i, .int j => some (.bl (decide (j ≤ i)))
    | _, _ => none
  | .isin => (inD a b).map .bl
  | .notin => (inD a b).map fun k => .bl (!k)
  | .is_ => (isD a b).map .bl
  | .isnot => (isD a b).map fun k => .bl (!k)
def atD (xs : List D) (i : Int) : Option D := if 0 ≤ i then xs[i.toNat]? else if -(xs.length : Int) ≤ i then xs[(i + xs.length).toNat]? else none
def idxD : D → D → Option D
  | .tup xs, .int i => atD xs i
  | .lst xs, .int i => atD xs i
  | .str z, .int i => if 0 ≤ i ∧ z.length ≤ big then (z.cps.toList[i.toNat]?).map fun c => .str ⟨#[c]⟩ else none
  | _, _ => none
def cutAt (n d : Nat) : Option Int → Nat
  | none => d
  | some i => if i < 0 then (i + n).toNat else min i.toNat n
def cutD (xs : List D) (lo hi : Option Int) : List D := (xs.drop (cutAt xs.length 0 lo)).take (cutAt xs.length xs.length hi - cutAt xs.length 0 lo)
def optI : List D → Option (Option Int)
  | [] => some none
  | [.int i] => some (some i)
  | _ => none
def slcD (a : D) (lo hi : Option Int) : Option D :=
  match a with
  | .tup xs => some (.tup (cutD xs lo hi))
  | .lst xs => some (.lst (cutD xs lo hi))
  | _ => none
def revD : D → Option D
  | .tup xs => some (.tup xs.reverse)
  | .lst xs => some (.lst xs.reverse)
  | _ => none
def negD : D → Option D
  | .int i => some (.int (-i))
  | _ => none
def minZ : Int → List Int → Int
  | m, [] => m
  | m, x :: r => minZ (if x < m then x else m) r
def maxZ : Int → List Int → Int
  | m, [] => m
  | m, x :: r => maxZ (if x > m then x else m) r
def seqD : D → Option (List D)
  | .tup xs => some xs
  | .lst xs => some xs
  | _ => none
def biD : BI → List D → Option D
  | .len, [.tup xs] => some (.int xs.length)
  | .len, [.lst xs] => some (.int xs.length)
  | .len, [.str x] => if x.length ≤ big then some (.int x.length) else none
  | .abs, [.int i] => some (.int (if i < 0 then -i else i))
  | .int, [.int i] => some (.int i)
  | .int, [.bl b] => some (.int (if b then 1 else 0))
  | .sum, [a] => match seqD a with
    | some xs => (intsD xs).map fun ns => .int ns.sum
    | none => none
  | .min, [.int i, .int j] => some (.int (if j < i then j else i))
  | .max, [.int i, .int j] => some (.int (if j > i then j else i))
  | .min, [a] => match seqD a with
    | some xs => match intsD xs with
      | some (m :: r) => some (.int (minZ m r))
      | _ => none
    | none => none
  | .max, [a] => match seqD a with
    | some xs => match intsD xs with
      | some (m :: r) => some (.int (maxZ m r))
      | _ => none
    | none => none
  | .all, [.lst xs] => (blsD xs).map fun bs => .bl (bs.all id)
  | .any, [.lst xs] => (blsD xs).map fun bs => .bl (bs.any id)
  | .tuple, [a] => (seqD a).map .tup
  | .list, [a] => (seqD a).map .lst
  | .gcd, [.int i, .int j] => some (.int (Int.gcd i j))
  | _, _ => none
def isiD : Ty → D → Option Bool
  | .exc _, _ => none
  | .int, .int _ => some true
  | .int, .bl _ => some true
  | .bool, .bl _ => some true
  | .tuple, .tup _ => some true
  | .list, .lst _ => some true
  | .str, .str _ => some true
  | _, .dct _ _ => none
  | _, .set _ => none
  | _, .loc _ => none
  | _, _ => some false
/-! ### loops -/
def rangeD (lo : Int) (n : Nat) (st : Int) : List D := (List.range n).map fun (k : Nat) => .int (lo + (k : Int) * st)
def inR (i : Int) : Bool := decide (-(2 ^ 62) ≤ i ∧ i < 2 ^ 62)
def rngD : List D → Option (List D)
  | [.int j] => if inR j then some (rangeD 0 j.toNat 1) else none
  | [.int i, .int j] => if inR i && inR j then some (rangeD i (j - i).toNat 1) else none
  | [.int i, .int j, .int c] => if inR i && inR j && decide (c = -1) then some (rangeD i (i - j).toNat (-1)) else none
  | _ => none
def rrngD : List D → Option (List D)
  | [.int j] => if inR j then some (rangeD (((j.toNat : Nat) : Int) - 1) j.toNat (-1)) else none
  | [.int i, .int j] => if inR i && inR j then some (rangeD (i + (((j - i).toNat : Nat) : Int) - 1) (j - i).toNat (-1)) else none
  | _ => none
abbrev Gd := List (Nat × List D)
def gok (s : Sto) : Gd → Bool
  | [] => true
  | (n, xs) :: r => same (s.getD n .non) (.lst xs) && gok s r
def walkD (s : Sto) : D → Option (List D × Gd)
  | .tup xs => some (xs, [])
  | .lst xs => some (xs, [])
  | .loc n => match s.getD n .non with
    | .lst xs => some (xs, [(n, xs)])
    | _ => none
  | .str z => some (z.cps.toList.map fun c => .str ⟨#[c]⟩, [])
  | _ => none
def walkQ (s : Sto) : D → Option (Bool × List D × Gd)
  | .tup xs => some (true, xs, [])
  | .lst xs => some (false, xs, [])
  | .loc n => match s.getD n .non with
    | .lst xs => some (false, xs, [(n, xs)])
    | _ => none
  | _ => none
def zipD : List D → List D → List D
  | x :: xs, y :: ys => .tup [x, y] :: zipD xs ys
  | _, _ => []
def enumD : Nat → List D → List D
  | _, [] => []
  | k, x :: xs => .tup [.int k, x] :: enumD (k + 1) xs
def wipeE (e : En) : List (Str × Nat) → En
  | [] => e
  | v :: vs => (wipeE e vs).set v.2 none
def noExc {α : Type} : Out α → Out α
  | .ok a s => .ok a s
  | _ => .bad
def loopC (body : D → Sto → Out (Option D)) (g : Gd) : List D → Sto → Out (List D)
  | [], s => if gok s g then .ok [] s else .bad
  | d :: r, s => if gok s g then (body d s).bind fun y s1 => (loopC body g r s1).bind fun ys s2 => .ok (match y with
      | some y => y :: ys
      | none => ys) s2
    else .bad
def loopS (body : D → En → Sto → OutS) (g : Gd) : List D → En → Sto → OutS
  | [], e, s => if gok s g then .nx e s else .bad
  | d :: r, e, s => if gok s g then match body d e s with
      | .nx e1 s1 => loopS body g r e1 s1
      | .cnt e1 s1 => loopS body g r e1 s1
      | .brk e1 s1 => .nx e1 s1
      | x => x
    else .bad
def loopW (t : En → Sto → Out Bool) (body : En → Sto → OutS) : Nat → En → Sto → OutS
  | 0, _, _ => .bad
  | n + 1, e, s => match t e s with
    | .ok true s1 => match body e s1 with
      | .nx e2 s2 => loopW t body n e2 s2
      | .cnt e2 s2 => loopW t body n e2 s2
      | .brk e2 s2 => .nx e2 s2
      | x => x
    | .ok false s1 => .nx e s1
    | .exc c v s1 => .exc c v e s1
    | .bad => .bad
def fuelW : Nat := 1000000000000
def putC (n : Nat) (c : D) (s : Sto) : Out Unit := if decide (n < s.length) && below n c then .ok () (s.set n c) else .bad
def setAt (xs : List D) (i : Int) (d : D) : Option (List D) :=
  if 0 ≤ i ∧ i < xs.length then some (xs.set i.toNat d) else if i < 0 ∧ -(xs.length : Int) ≤ i then some (xs.set (i + xs.length).toNat d) else none
def setC (n : Nat) (k : Int) (d : D) (s : Sto) : Out Unit :=
  match s.getD n .non with
  | .lst xs => match setAt xs k d with
    | some ys => putC n (.lst ys) s
    | none => .bad
  | _ => .bad
def appC (n : Nat) (d : D) (s : Sto) : Out Unit :=
  match s.getD n .non with
  | .lst xs => if xs.length < big then putC n (.lst (xs ++ [d])) s else .bad
  | _ => .bad
def extC (n : Nat) (ys : List D) (s : Sto) : Out Unit :=
  match s.getD n .non with
  | .lst xs => if xs.length + ys.length ≤ big then putC n (.lst (xs ++ ys)) s else .bad
  | _ => .bad
def popC (n : Nat) (l : List D) (s : Sto) : Out D :=
  match s.getD n .non with
  | .lst xs => match l with
    | [] => match xs[xs.length - 1]? with
      | some d => (putC n (.lst xs.dropLast) s).bind fun _ s => .ok d s
      | none => .bad
    | [.int i] => if 0 ≤ i then match xs[i.toNat]? with
        | some d => (putC n (.lst (xs.eraseIdx i.toNat)) s).bind fun _ s => .ok d s
        | none => .bad
      else .bad
    | _ => .bad
  | _ => .bad
def onLoc {α : Type} (x : D) (f : Nat → Out α) : Out α :=
  match x with
  | .loc n => f n
  | _ => .bad
def truth (x : D) (s : Sto) : Out Bool :=
  match x with
  | .bl b => .ok b s
  | _ => .bad
def toS (x : Out En) (e : En) : OutS :=
  match x with
  | .ok e1 s => .nx e1 s
  | .exc c v s => .exc c v e s
  | .bad => .bad
def thenS {α : Type} (x : Out α) (e : En) (f : α → Sto → OutS) : OutS :=
  match x with
  | .ok a s => f a s
  | .exc c v s => .exc c v e s
  | .bad => .bad
structure Cl where
  fn : Nat → List D → Sto → Out D
def tryO (d : D) (tb : List (Nat × D)) (x : Out D) : Out D :=
  match x with
  | .ok _ s => .ok d s
  | .exc k .non s => match tb.lookup k with
    | some r => .ok r s
    | none => .bad
  | _ => .bad
mutual
def evE (c : Cl) : CE → En → Sto → Out D
  | .var i, e, s => match e[i]? with
    | some (some d) => .ok d s
    | _ => .bad
  | .lit d, _, s => .ok d s
  | .glo _ d, _, s => .ok d s
  | .bin o a b, e, s => (evE c a e s).bind fun x s => (evE c b e s).bind fun y s => lift (binD o (rd s x) (rd s y)) s
  | .neg a, e, s => (evE c a e s).bind fun x s => lift (negD x) s
  | .cmp o a b, e, s => (evE c a e s).bind fun x s => (evE c b e s).bind fun y s => lift (cmpD o (fz 0 s x) (fz 0 s y)) s
  | .chn o p a b d, e, s => (evE c a e s).bind fun x s => (evE c b e s).bind fun y s => (lift (cmpD o (fz 0 s x) (fz 0 s y)) s).bind fun z s => (truth z s).bind fun k s =>
      if k = true then (evE c d e s).bind fun u s => lift (cmpD p (fz 0 s y) (fz 0 s u)) s else .ok (.bl false) s
  | .and a b, e, s => (evE c a e s).bind fun x s => (truth x s).bind fun k s => if k = true then evE c b e s else .ok (.bl false) s
  | .or a b, e, s => (evE c a e s).bind fun x s => (truth x s).bind fun k s => if k = true then .ok (.bl true) s else evE c b e s
  | .not a, e, s => (evE c a e s).bind fun x s => (truth x s).bind fun k s => .ok (.bl (!k)) s
  | .ite t a b, e, s => (evE c t e s).bind fun x s => (truth x s).bind fun k s => if k = true then evE c a e s else evE c b e s
  | .tup es, e, s => (evEs c es e s).bind fun xs s => .ok (.tup xs) s
  | .lst es, e, s => (evEs c es e s).bind fun xs s => .ok (.lst xs) s
  | .idx a i, e, s => (evE c a e s).bind fun x s => (evE c i e s).bind fun y s => lift (idxD (rd s x) y) s
  | .slc a lo hi, e, s => (evE c a e s).bind fun x s => (evEs c lo e s).bind fun l s => match optI l with
    | some l => (evEs c hi e s).bind fun h s => match optI h with
      | some h => lift (slcD (rd s x) l h) s
      | none => .bad
    | none => .bad
  | .slr a, e, s => (evE c a e s).bind fun x s => lift (revD (rd s x)) s
  | .call f es, e, s => (evEs c es e s).bind fun xs s => c.fn f xs s
  | .callD f es ds, e, s => (evEs c es e s).bind fun xs s => c.fn f (xs ++ ds) s
  | .tryL d tb b, e, s => tryO d tb (evE c b e s)
  | .bi b es, e, s => (evEs c es e s).bind fun xs s => lift (biD b (xs.map (rd s))) s
  | .isi a t, e, s => (evE c a e s).bind fun x s => lift ((isiD t (rd s x)).map .bl) s
  | .comp own tg it ifs elt, e, s => (evI c it e s).bind fun w s => (noExc (loopC (fun d s => (evT c tg d (wipeE e own) s).bind fun e1 s => (evIf c ifs e1 s).bind fun k s =>
      if k = true then (evE c elt e1 s).bind fun y s => .ok (some y) s else .ok none s) w.2 w.1 s)).bind fun ys s => if ys.length ≤ big then .ok (.lst ys) s else .bad
  | .thaw a, e, s => (evE c a e s).bind fun x s => match x with
    | .lst xs => if belows s.length xs then .ok (.loc s.length) (s ++ [.lst xs]) else .bad
    | _ => .bad
  | .pop o es, e, s => (evE c o e s).bind fun x s => onLoc x fun n => (evEs c es e s).bind fun l s => popC n l s
def evEs (c : Cl) : CEs → En → Sto → Out (List D)
  | .nil, _, s => .ok [] s
  | .cons a r, e, s => (evE c a e s).bind fun x s => (evEs c r e s).bind fun xs s => .ok (x :: xs) s
def evIf (c : Cl) : CEs → En → Sto → Out Bool
  | .nil, _, s => .ok true s
  | .cons a r, e, s => (evE c a e s).bind fun x s => (truth x s).bind fun k s => if k = true then evIf c r e s else .ok false s
def evI (c : Cl) : CI → En → Sto → Out (List D × Gd)
  | .of a, e, s => (evE c a e s).bind fun x s => match walkD s x with
    | some w => .ok w s
    | none => .bad
  | .range es, e, s => (evEs c es e s).bind fun xs s => match rngD xs with
    | some l => .ok (l, []) s
    | none => .bad
  | .revr es, e, s => (evEs c es e s).bind fun xs s => match rrngD xs with
    | some l => .ok (l, []) s
    | none => .bad
  | .zip a b, e, s => (evE c a e s).bind fun x s => (evE c b e s).bind fun y s => match walkQ s x, walkQ s y with
    | some (k, xs, g), some (m, ys, h) => if k = m then .ok (zipD xs ys, g ++ h) s else .bad
    | _, _ => .bad
  | .enum a, e, s => (evE c a e s).bind fun x s => match walkQ s x with
    | some (_, xs, g) => .ok (enumD 0 xs, g) s
    | none => .bad
  | .rev a, e, s => (evE c a e s).bind fun x s => match walkQ s x with
    | some (_, xs, g) => .ok (xs.reverse, g) s
    | none => .bad
def evT (c : Cl) : Tg → D → En → Sto → Out En
  | .nm i, d, e, s => .ok (e.set i (some d)) s
  | .tp ts, d, e, s => match rd s d with
    | .tup xs => evTs c ts xs e s
    | .lst xs => evTs c ts xs e s
    | _ => .bad
  | .sub o i, d, e, s => (noExc (evE c o e s)).bind fun x s => onLoc x fun n => (noExc (evE c i e s)).bind fun y s => match y with
    | .int k => (setC n k d s).bind fun _ s => .ok e s
    | _ => .bad
def evTs (c : Cl) : Tgs → List D → En → Sto → Out En
  | .nil, [], e, s => .ok e s
  | .cons t r, d :: ds, e, s => (evT c t d e s).bind fun e1 s => evTs c r ds e1 s
  | _, _, _, _ => .bad
end
mutual
def evS (c : Cl) : CS → En → Sto → OutS
  | .exp a, e, s => toS ((evE c a e s).bind fun _ s => .ok e s) e
  | .asg t a, e, s => toS ((evE c a e s).bind fun d s => evT c t d e s) e
  | .aug i o a, e, s => toS ((evE c (.var i) e s).bind fun x s => (evE c a e s).bind fun y s => match x, y with
    | .int m, .int n => .ok (e.set i (some (.int (match o with
      | .add => m + n
      | _ => m - n)))) s
    | _, _ => .bad) e
  | .ret a, e, s => thenS (evE c a e s) e fun d s1 => .ret d s1
  | .ret0, _, s => .ret .non s
  | .retL a, e, s => thenS (evE c a e s) e fun d s1 => match d with
    | .loc n => .ret (.loc n) s1
    | _ => .bad
  | .nev, _, _ => .bad
  | .ife t a b, e, s => thenS ((evE c t e s).bind truth) e fun k s1 => if k = true then evSs c a e s1 else evSs c b e s1
  | .for_ t it b, e, s => thenS (evI c it e s) e fun w s1 => loopS (fun d e s => thenS (evT c t d e s) e fun e1 s1 => evSs c b e1 s1) w.2 w.1 e s1
  | .whl t b, e, s => loopW (fun e s => (evE c t e s).bind truth) (fun e s => evSs c b e s) fuelW e s
  | .brk, e, s => .brk e s
  | .cnt, e, s => .cnt e s
  | .pas, e, s => .nx e s
  | .rais k _, e, s => .exc k .non e s
  | .app o a, e, s => toS ((evE c o e s).bind fun x s => onLoc x fun n => (evE c a e s).bind fun y s => (appC n y s).bind fun _ s => .ok e s) e
  | .ext o a, e, s => toS ((evE c o e s).bind fun x s => onLoc x fun n => (evE c a e s).bind fun y s => match rd s y with
    | .lst ys => (extC n ys s).bind fun _ s => .ok e s
    | _ => .bad) e
def evSs (c : Cl) : CSs → En → Sto → OutS
  | .nil, e, s => .nx e s
  | .cons a r, e, s => match evS c a e s with
    | .nx e1 s1 => evSs c r e1 s1
    | x => x
end
structure FD where
  np : Nat
  nl : Nat
  fr : Bool
  body : CSs
def lowLoc (n : Nat) : D → Bool
  | .loc m => decide (m < n)
  | _ => false
def leave (n : Nat) (d : D) (s : Sto) : Out D := .ok (fz n s d) (s.take n)
def runF (c : Cl) (f : FD) (args : List D) (s : Sto) : Out D :=
  if args.length = f.np then match evSs c f.body (args.map some ++ List.replicate (f.nl - f.np) none) s with
    | .nx _ s1 => leave s.length .non s1
    | .ret d s1 => if f.fr && lowLoc s.length d then .bad else leave s.length d s1
    | .exc k v _ s1 => .exc k v (s1.take s.length)
    | _ => .bad
  else .bad
def callN (fs : List FD) : Nat → Nat → List D → Sto → Out D
  | 0, _, _, _ => .bad
  | n + 1, f, args, s => match fs[f]? with
    | some fd => runF ⟨callN fs n⟩ fd args s
    | none => .bad
end Pv
end
section
namespace Pv
/-- the defs that make lambdas -/
def tabDefs : List PySem.Str := ["_law_right"]
end Pv
end
section
set_option maxRecDepth 100000
namespace Pv
open PySem PySem.Spec PyProof.Rows L2
/-! ### how the values stand in the abstract heap -/
/-- rho: where the cells stand; av: lists that nothing else names -/
structure Wd where
  rho : List Addr
  av : List Addr
def Wd.avo (W : Wd) (p : Addr) : Wd := ⟨W.rho, p :: W.av⟩
/-- an object that is no table of code objects -/
def Ob (H : Hp) (a : Addr) : Prop := ∃ o, H a = some o ∧ ∀ ps, o ≠ .tbl ps
theorem Ob.of_lst {H : Hp} {a : Addr} {xs : List V} (h : H a = some (.lst xs)) : Ob H a := ⟨_, h, fun _ z => nomatch z⟩
theorem Ob.no {H : Hp} {a : Addr} (h : H a = none) : ¬ Ob H a := fun ⟨o, e, _⟩ => by rw [h] at e; cases e
def KL (K : PySem.W.Frag) (a : Addr) (xs : List V) : Prop :=
  ∃ (o : Obj) (its : Array Value) (n : Nat), K.lookup a = some o ∧ o.cls = .type "list" ∧ o.dict = none ∧ o.data = .seq its n ∧ its.size ≤ sizeLine ∧ Vals xs its.toList
def LstAt (K : PySem.W.Frag) (W : Wd) (H : Hp) (a : Addr) (xs : List V) : Prop :=
  (H a = some (.lst xs) ∧ a ∉ W.rho ∧ a ∉ W.av) ∨ (∃ o, H a = some (.frz o (.lst xs))) ∨ KL K a xs
theorem LstAt.sq {K : PySem.W.Frag} {W : Wd} {H : Hp} {a : Addr} {xs : List V} (h : LstAt K W H a xs) : SqL K H a xs := by
  rcases h with h | h | h
  · exact .inl (.inl h.1)
  · exact .inl (.inr h)
  · exact .inr h
mutual
def Rep (K : PySem.W.Frag) (W : Wd) (H : Hp) : D → V → Prop
  | .non, v => v = .non
  | .bl b, v => v = .bl b
  | .int i, v => v = .int i
  | .str z, v => v = .str z
  | .tup ds, v => ∃ a vs, v = .ref a ∧ SqT K H a vs ∧ Reps K W H ds vs
  | .lst ds, v => ∃ a vs, v = .ref a ∧ LstAt K W H a vs ∧ Reps K W H ds vs
  | .loc n, v => ∃ a, v = .ref a ∧ W.rho[n]? = some a
  | .dct _ _, _ => False
  | .set _, _ => False
def Reps (K : PySem.W.Frag) (W : Wd) (H : Hp) : List D → List V → Prop
  | [], vs => vs = []
  | d :: ds, vs => ∃ v r, vs = v :: r ∧ Rep K W H d v ∧ Reps K W H ds r
end
/-- what stays from one state to a later one -/
structure Pres (W : Wd) (H : Hp) (W' : Wd) (H' : Hp) : Prop where
  av : W'.av = W.av
  ext : ∃ l, W'.rho = W.rho ++ l ∧ ∀ a ∈ l, ¬ Ob H a
  keep : ∀ a o, H a = some o → (Mut (some o) → a ∉ W.rho) → (∀ ps, o ≠ .tbl ps) → H' a = some o
  dom : ∀ a, Ob H a → Ob H' a
/-- the lambda-making defs' tables of code objects -/
def locN (q : Str) : Str := q ++ ".<locals>."
def lamN (q : Str) : Str := q ++ ("<lambda>" : Str)
def TK (K : PySem.W.Frag) : List (Addr × Str) := tabDefs.map fun x => ((He.cT K (x, none)).2, lamN (locN x))
structure RelSt (K : PySem.W.Frag) (W : Wd) (s : Sto) (H : Hp) : Prop where
  len : W.rho.length = s.length
  nd : W.rho.Nodup
  avd : ∀ a ∈ W.av, Ob H a ∧ a ∉ W.rho
  cell : ∀ (n : Nat) (a : Addr), W.rho[n]? = some a → ∃ ds vs, s[n]? = some (.lst ds) ∧ H a = some (.lst vs) ∧ Reps K W H ds vs ∧ belows n ds = true
  tabs : LamX.Tabs (TK K) H
def RelEn (K : PySem.W.Frag) (W : Wd) (H : Hp) (e : En) (σ : L2.St) : Prop :=
  e.length = σ.length ∧ ∀ (i : Nat) (d : D), e[i]? = some (some d) → ∃ v, σ[i]? = some (some v) ∧ Rep K W H d v
section
variable {K : PySem.W.Frag} {W W' W1 : Wd} {H H' H1 : Hp} {s s' : Sto}
theorem Pres.refl : Pres W H W H := ⟨rfl, ⟨[], by simp, by simp⟩, fun _ _ h _ _ => h, fun _ h => h⟩
theorem Pres.trans (a : Pres W H W1 H1) (b : Pres W1 H1 W' H') : Pres W H W' H' := by
  obtain ⟨v1, ⟨l1, e1, n1⟩, k1, d1⟩ := a
  obtain ⟨v2, ⟨l2, e2, n2⟩, k2, d2⟩ := b
  refine ⟨v2.trans v1, ⟨l1 ++ l2, by rw [e2, e1, List.append_assoc], fun a ha => ?_⟩, fun a o h hm ht => ?_, fun a h => d2 a (d1 a h)⟩
  · rcases List.mem_append.mp ha with ha | ha
    · exact n1 a ha
    · exact fun z => n2 a ha (d1 a z)
  · refine k2 a o (k1 a o h hm ht) (fun m hin => ?_) ht
    rw [e1] at hin
    rcases List.mem_append.mp hin with hin | hin
    · exact hm m hin
    · exact n1 a hin ⟨o, h, ht⟩
/-- a new object -/
theorem Pres.new {p : Addr} {o : HO} (h : H p = none) : Pres W H W (upd H p o) := by
  refine ⟨rfl, ⟨[], by simp, by simp⟩, fun a u e _ _ => ?_, fun a ⟨u, e, z⟩ => ?_⟩
  · rw [upd_ne (ne_of_none e h)]; exact e
  · exact ⟨u, by rw [upd_ne (ne_of_none e h)]; exact e, z⟩
theorem SqT.pres {a : Addr} {xs : List V} (p : Pres W H W' H') (h : SqT K H a xs) : SqT K H' a xs := by
  rcases h with (h | ⟨o, h⟩) | h
  · exact .inl (.inl (p.keep _ _ h (fun m => m.elim) (fun _ z => nomatch z)))
  · exact .inl (.inr ⟨o, p.keep _ _ h (fun m => m.elim) (fun _ z => nomatch z)⟩)
  · exact .inr h
theorem LstAt.pres {a : Addr} {xs : List V} (p : Pres W H W' H') (h : LstAt K W H a xs) : LstAt K W' H' a xs := by
  rcases h with ⟨h, n, m⟩ | ⟨o, h⟩ | h
  · refine .inl ⟨p.keep _ _ h (fun _ => n) (fun _ z => nomatch z), fun hin => ?_, by rw [p.av]; exact m⟩
    obtain ⟨l, e, q⟩ := p.ext
    rw [e] at hin
    rcases List.mem_append.mp hin with z | z
    · exact n z
    · exact q a z (Ob.of_lst h)
  · exact .inr (.inl ⟨o, p.keep _ _ h (fun m => m.elim) (fun _ z => nomatch z)⟩)
  · exact .inr (.inr h)
theorem ext_get {n : Nat} {a : Addr} (p : Pres W H W' H') (h : W.rho[n]? = some a) : W'.rho[n]? = some a := by
  obtain ⟨l, e, _⟩ := p.ext
  rw [e, List.getElem?_append_left (List.getElem?_eq_some_iff.mp h).1]
  exact h
/-- values by what is known of tuples, lists and cells -/
structure Keeps (K : PySem.W.Frag) (W : Wd) (H : Hp) (W' : Wd) (H' : Hp) (b : Nat) : Prop where
  tup : ∀ a xs, SqT K H a xs → SqT K H' a xs
  lst : ∀ a xs, LstAt K W H a xs → LstAt K W' H' a xs
  loc : ∀ (n : Nat) (a : Addr), n < b → W.rho[n]? = some a → W'.rho[n]? = some a
mutual
theorem Rep.by {b : Nat} (k : Keeps K W H W' H' b) : ∀ (d : D) {v : V}, below b d = true → Rep K W H d v → Rep K W' H' d v
  | .non, _, _, h => by simpa [Rep] using h
  | .bl _, _, _, h => by simpa [Rep] using h
  | .int _, _, _, h => by simpa [Rep] using h
  | .str _, _, _, h => by simpa [Rep] using h
  | .tup ds, _, w, h => by
    simp only [below] at w
    simp only [Rep] at h ⊢
    obtain ⟨a, vs, e, q, r⟩ := h
    exact ⟨a, vs, e, k.tup _ _ q, Reps.by k ds w r⟩
  | .lst ds, _, w, h => by
    simp only [below] at w
    simp only [Rep] at h ⊢
    obtain ⟨a, vs, e, q, r⟩ := h
    exact ⟨a, vs, e, k.lst _ _ q, Reps.by k ds w r⟩
  | .loc n, _, w, h => by
    simp only [below, decide_eq_true_eq] at w
    simp only [Rep] at h ⊢
    obtain ⟨a, e, q⟩ := h
    exact ⟨a, e, k.loc n a w q⟩
  | .dct _ _, _, _, h => by simp only [Rep] at h
  | .set _, _, _, h => by simp only [Rep] at h
theorem Reps.by {b : Nat} (k : Keeps K W H W' H' b) : ∀ (ds : List D) {vs : List V}, belows b ds = true → Reps K W H ds vs → Reps K W' H' ds vs
  | [], _, _, h => by simpa [Reps] using h
  | d :: ds, _, w, h => by
    simp only [belows, Bool.and_eq_true] at w
    simp only [Reps] at h ⊢
    obtain ⟨v, r, e, h1, h2⟩ := h
    exact ⟨v, r, e, Rep.by k d w.1 h1, Reps.by k ds w.2 h2⟩
end
mutual
theorem rep_below : ∀ (d : D) {v : V}, Rep K W H d v → below W.rho.length d = true
  | .non, _, _ => rfl
  | .bl _, _, _ => rfl
  | .int _, _, _ => rfl
  | .str _, _, _ => rfl
  | .tup ds, _, h => by simp only [Rep] at h; obtain ⟨a, vs, e, t, r⟩ := h; simp only [below]; exact reps_below ds r
  | .lst ds, _, h => by simp only [Rep] at h; obtain ⟨a, vs, e, t, r⟩ := h; simp only [below]; exact reps_below ds r
  | .loc n, _, h => by simp only [Rep] at h; obtain ⟨a, e, t⟩ := h; simp only [below, decide_eq_true_eq]; exact (List.getElem?_eq_some_iff.mp t).1
  | .dct _ _, _, h => by simp only [Rep] at h
  | .set _, _, h => by simp only [Rep] at h
theorem reps_below : ∀ (ds : List D) {vs : List V}, Reps K W H ds vs → belows W.rho.length ds = true
  | [], _, _ => rfl
  | d :: ds, _, h => by
    simp only [Reps] at h
    obtain ⟨v, r, e, h1, h2⟩ := h
    simp only [belows, Bool.and_eq_true]
    exact ⟨rep_below d h1, reps_below ds h2⟩
end
theorem Pres.keeps (p : Pres W H W' H') (b : Nat) : Keeps K W H W' H' b := ⟨fun _ _ => SqT.pres p, fun _ _ => LstAt.pres p, fun _ _ _ => ext_get p⟩
theorem Rep.pres (p : Pres W H W' H') {d : D} {v : V} (h : Rep K W H d v) : Rep K W' H' d v := Rep.by (p.keeps _) d (rep_below d h) h
theorem Reps.pres (p : Pres W H W' H') {ds : List D} {vs : List V} (h : Reps K W H ds vs) : Reps K W' H' ds vs := Reps.by (p.keeps _) ds (reps_below ds h) h
theorem RelEn.pres {e : En} {σ : L2.St} (p : Pres W H W' H') (h : RelEn K W H e σ) : RelEn K W' H' e σ :=
  ⟨h.1, fun i d q => let ⟨v, a, b⟩ := h.2 i d q; ⟨v, a, Rep.pres p b⟩⟩
theorem Reps.length : ∀ {ds : List D} {vs : List V}, Reps K W H ds vs → ds.length = vs.length
  | [], _, h => by simp only [Reps] at h; subst h; rfl
  | d :: ds, _, h => by
    simp only [Reps] at h
    obtain ⟨v, r, e, _, h2⟩ := h
    subst e
    simp [Reps.length h2]
theorem Reps.get : ∀ {ds : List D} {vs : List V} {i : Nat} {d : D}, Reps K W H ds vs → ds[i]? = some d → ∃ v, vs[i]? = some v ∧ Rep K W H d v
  | [], _, _, _, _, e => by simp at e
  | d :: ds, _, i, x, h, e => by
    simp only [Reps] at h
    obtain ⟨v, r, e1, h1, h2⟩ := h
    subst e1
    cases i with
    | zero => simp at e; subst e; exact ⟨v, rfl, h1⟩
    | succ i => simpa using Reps.get h2 (by simpa using e)
theorem Reps.append : ∀ {ds es : List D} {vs ws : List V}, Reps K W H ds vs → Reps K W H es ws → Reps K W H (ds ++ es) (vs ++ ws)
  | [], _, _, _, h, g => by simp only [Reps] at h; subst h; exact g
  | d :: ds, _, _, _, h, g => by
    simp only [Reps] at h
    obtain ⟨v, r, e1, h1, h2⟩ := h
    subst e1
    exact ⟨v, _, rfl, h1, Reps.append h2 g⟩
theorem Reps.take : ∀ {ds : List D} {vs : List V} (n : Nat), Reps K W H ds vs → Reps K W H (ds.take n) (vs.take n)
  | _, _, 0, _ => by simp [Reps]
  | [], _, _ + 1, h => by simp only [Reps] at h; subst h; simp [Reps]
  | d :: ds, _, n + 1, h => by
    simp only [Reps] at h
    obtain ⟨v, r, e1, h1, h2⟩ := h
    subst e1
    exact ⟨v, _, rfl, h1, Reps.take n h2⟩
theorem Reps.drop : ∀ {ds : List D} {vs : List V} (n : Nat), Reps K W H ds vs → Reps K W H (ds.drop n) (vs.drop n)
  | _, _, 0, h => h
  | [], _, _ + 1, h => by simp only [Reps] at h; subst h; simp [Reps]
  | d :: ds, _, n + 1, h => by
    simp only [Reps] at h
    obtain ⟨v, r, e1, h1, h2⟩ := h
    subst e1
    exact Reps.drop n h2
theorem Reps.set {d : D} {v : V} (hd : Rep K W H d v) : ∀ {ds : List D} {vs : List V} (n : Nat), Reps K W H ds vs → Reps K W H (ds.set n d) (vs.set n v)
  | [], _, _, h => by simp only [Reps] at h; subst h; simp [Reps]
  | x :: ds, _, n, h => by
    simp only [Reps] at h
    obtain ⟨w, r, e1, h1, h2⟩ := h
    subst e1
    cases n with
    | zero => exact ⟨v, _, rfl, hd, h2⟩
    | succ n => exact ⟨w, _, rfl, h1, Reps.set hd n h2⟩
theorem Reps.one {d : D} {v : V} (hd : Rep K W H d v) : Reps K W H [d] [v] := ⟨v, [], rfl, hd, rfl⟩
theorem Reps.reverse : ∀ {ds : List D} {vs : List V}, Reps K W H ds vs → Reps K W H ds.reverse vs.reverse
  | [], _, h => by simp only [Reps] at h; subst h; simp [Reps]
  | d :: ds, _, h => by
    simp only [Reps] at h
    obtain ⟨v, r, e1, h1, h2⟩ := h
    subst e1
    rw [List.reverse_cons, List.reverse_cons]
    exact Reps.append (Reps.reverse h2) (Reps.one h1)
theorem Reps.eraseIdx : ∀ {ds : List D} {vs : List V} (n : Nat), Reps K W H ds vs → Reps K W H (ds.eraseIdx n) (vs.eraseIdx n)
  | [], _, _, h => by simp only [Reps] at h; subst h; simp [Reps]
  | d :: ds, _, n, h => by
    simp only [Reps] at h
    obtain ⟨v, r, e1, h1, h2⟩ := h
    subst e1
    cases n with
    | zero => exact h2
    | succ n => exact ⟨v, _, rfl, h1, Reps.eraseIdx n h2⟩
/-! ### cells left behind -/
mutual
theorem below_mono {n m : Nat} (h : n ≤ m) : ∀ d : D, below n d = true → below m d = true
  | .non, _ => rfl
  | .bl _, _ => rfl
  | .int _, _ => rfl
  | .str _, _ => rfl
  | .tup ds, q => by simp only [below] at q ⊢; exact belows_mono h ds q
  | .lst ds, q => by simp only [below] at q ⊢; exact belows_mono h ds q
  | .set ds, q => by simp only [below] at q ⊢; exact belows_mono h ds q
  | .dct ks vs, q => by simp only [below, Bool.and_eq_true] at q ⊢; exact ⟨belows_mono h ks q.1, belows_mono h vs q.2⟩
  | .loc k, q => by simp only [below, decide_eq_true_eq] at q ⊢; omega
theorem belows_mono {n m : Nat} (h : n ≤ m) : ∀ ds : List D, belows n ds = true → belows m ds = true
  | [], _ => rfl
  | d :: ds, q => by simp only [belows, Bool.and_eq_true] at q ⊢; exact ⟨below_mono h d q.1, belows_mono h ds q.2⟩
end
/-- a value by the first cells alone -/
theorem LstAt.cut {l : List Addr} {a : Addr} {xs : List V} {ρ av : List Addr} (h : LstAt K ⟨ρ ++ l, av⟩ H a xs) : LstAt K ⟨ρ, av⟩ H a xs := by
  rcases h with ⟨h, n, m⟩ | h | h
  · exact .inl ⟨h, fun z => n (List.mem_append_left _ z), m⟩
  · exact .inr (.inl h)
  · exact .inr (.inr h)
variable {ρ l av : List Addr}
mutual
theorem fz_rep {g : Nat → D} {b : Nat} (hg : ∀ m a, ρ.length ≤ m → m < b → (ρ ++ l)[m]? = some a → Rep K ⟨ρ, av⟩ H (g m) (.ref a)) :
    ∀ (d : D) {v : V}, below b d = true → Rep K ⟨ρ ++ l, av⟩ H d v → Rep K ⟨ρ, av⟩ H (fzD ρ.length g d) v
  | .non, _, _, h => by simpa [Rep, fzD] using h
  | .bl _, _, _, h => by simpa [Rep, fzD] using h
  | .int _, _, _, h => by simpa [Rep, fzD] using h
  | .str _, _, _, h => by simpa [Rep, fzD] using h
  | .tup ds, _, q, h => by
    simp only [below] at q
    simp only [Rep, fzD] at h ⊢
    obtain ⟨a, vs, e, t, r⟩ := h
    exact ⟨a, vs, e, t, fz_reps hg ds q r⟩
  | .lst ds, _, q, h => by
    simp only [below] at q
    simp only [Rep, fzD] at h ⊢
    obtain ⟨a, vs, e, t, r⟩ := h
    exact ⟨a, vs, e, t.cut, fz_reps hg ds q r⟩
  | .loc m, _, q, h => by
    simp only [below, decide_eq_true_eq] at q
    simp only [Rep] at h
    obtain ⟨a, e, t⟩ := h
    subst e
    simp only [fzD]
    by_cases hm : m < ρ.length
    · rw [if_pos hm]
      rw [List.getElem?_append_left hm] at t
      simp only [Rep]
      exact ⟨a, rfl, t⟩
    · rw [if_neg hm]
      exact hg m a (by omega) q t
  | .dct _ _, _, _, h => by simp only [Rep] at h
  | .set _, _, _, h => by simp only [Rep] at h
theorem fz_reps {g : Nat → D} {b : Nat} (hg : ∀ m a, ρ.length ≤ m → m < b → (ρ ++ l)[m]? = some a → Rep K ⟨ρ, av⟩ H (g m) (.ref a)) :
    ∀ (ds : List D) {vs : List V}, belows b ds = true → Reps K ⟨ρ ++ l, av⟩ H ds vs → Reps K ⟨ρ, av⟩ H (fzDs ρ.length g ds) vs
  | [], _, _, h => by simpa [Reps, fzDs] using h
  | d :: ds, _, q, h => by
    simp only [belows, Bool.and_eq_true] at q
    simp only [Reps, fzDs] at h ⊢
    obtain ⟨v, r, e, h1, h2⟩ := h
    exact ⟨v, r, e, fz_rep hg d q.1 h1, fz_reps hg ds q.2 h2⟩
end
theorem nodup_at {α : Type} : ∀ {l : List α} {i j : Nat} {a : α}, l.Nodup → l[i]? = some a → l[j]? = some a → i = j
  | [], _, _, _, _, h1, _ => by simp at h1
  | x :: r, i, j, a, nd, h1, h2 => by
    obtain ⟨n1, n2⟩ := List.nodup_cons.mp nd
    cases i with
    | zero =>
      cases j with
      | zero => rfl
      | succ j =>
        simp at h1 h2
        subst h1
        exact absurd (List.mem_of_getElem? h2) n1
    | succ i =>
      cases j with
      | zero =>
        simp at h1 h2
        subst h2
        exact absurd (List.mem_of_getElem? h1) n1
      | succ j =>
        have := nodup_at n2 (i := i) (j := j) (a := a) (by simpa using h1) (by simpa using h2)
        omega
theorem nodup_app (nd : (ρ ++ l).Nodup) {m : Nat} {a : Addr} (hm : ρ.length ≤ m) (h : (ρ ++ l)[m]? = some a) : a ∉ ρ := by
  intro hin
  obtain ⟨k, hk⟩ := List.getElem?_of_mem hin
  have hk' : k < ρ.length := (List.getElem?_eq_some_iff.mp hk).1
  have h2 : (ρ ++ l)[k]? = some a := by rw [List.getElem?_append_left hk']; exact hk
  have := nodup_at nd h h2
  omega
theorem fzL_rep (R : RelSt K ⟨ρ ++ l, av⟩ s H) : ∀ (k m : Nat) (a : Addr), ρ.length ≤ m → m < k → (ρ ++ l)[m]? = some a → Rep K ⟨ρ, av⟩ H (fzL s ρ.length k m) (.ref a)
  | 0, _, _, _, h, _ => by omega
  | k + 1, m, a, h1, h2, h3 => by
    obtain ⟨ds, vs, e1, e2, e3, e4⟩ := R.cell m a h3
    have hg : s.getD m .non = .lst ds := by rw [List.getD_eq_getElem?_getD, e1]; rfl
    unfold fzL
    rw [hg]
    simp only [fzD, Rep]
    refine ⟨a, vs, rfl, .inl ⟨e2, nodup_app R.nd h1 h3, fun q => (R.avd a q).2 (List.mem_of_getElem? h3)⟩, ?_⟩
    exact fz_reps (b := m) (fun m' a' q1 q2 q3 => fzL_rep R k m' a' q1 (by omega) q3) ds e4 e3
/-- a value when the cells from ρ.length on are given up -/
theorem Rep.left {d : D} {v : V} (R : RelSt K ⟨ρ ++ l, av⟩ s H) (h : Rep K ⟨ρ ++ l, av⟩ H d v) : Rep K ⟨ρ, av⟩ H (fz ρ.length s d) v := by
  unfold fz
  refine fz_rep (b := s.length) (fun m a q1 q2 q3 => fzL_rep R _ m a q1 q2 q3) d ?_ h
  rw [← R.len]
  exact rep_below d h
theorem Reps.left {ds : List D} {vs : List V} (R : RelSt K ⟨ρ ++ l, av⟩ s H) (h : Reps K ⟨ρ ++ l, av⟩ H ds vs) : Reps K ⟨ρ, av⟩ H (fzDs ρ.length (fzL s ρ.length s.length) ds) vs := by
  refine fz_reps (b := s.length) (fun m a q1 q2 q3 => fzL_rep R _ m a q1 q2 q3) ds ?_ h
  rw [← R.len]
  exact reps_below ds h
/-- a value with all its cells read -/
theorem Rep.read {d : D} {v : V} (R : RelSt K W s H) (h : Rep K W H d v) : Rep K ⟨[], W.av⟩ H (fz 0 s d) v := Rep.left (ρ := []) (l := W.rho) (by simpa using R) (by simpa using h)
theorem RelSt.left (R : RelSt K ⟨ρ ++ l, av⟩ s H) : RelSt K ⟨ρ, av⟩ (s.take ρ.length) H := by
  have hl := R.len
  simp only [List.length_append] at hl
  refine ⟨by rw [List.length_take]; simp only; omega, (List.nodup_append.mp R.nd).1, fun a q => ⟨(R.avd a q).1, fun z => (R.avd a q).2 (List.mem_append_left _ z)⟩, fun n a h => ?_, R.tabs⟩
  have h : ρ[n]? = some a := h
  have hn : n < ρ.length := (List.getElem?_eq_some_iff.mp h).1
  have h' : (ρ ++ l)[n]? = some a := by rw [List.getElem?_append_left hn]; exact h
  obtain ⟨ds, vs, e1, e2, e3, e4⟩ := R.cell n a h'
  have kp : Keeps K ⟨ρ ++ l, av⟩ H ⟨ρ, av⟩ H ρ.length := ⟨fun _ _ q => q, fun _ _ q => q.cut, fun m b hm q => by
    have q : (ρ ++ l)[m]? = some b := q
    rw [List.getElem?_append_left hm] at q
    exact q⟩
  exact ⟨ds, vs, by rw [List.getElem?_take_of_lt hn]; exact e1, e2, Reps.by kp ds (belows_mono (Nat.le_of_lt hn) ds e4) e3, e4⟩
theorem Pres.left (p : Pres ⟨ρ, av⟩ H ⟨ρ ++ l, av⟩ H') : Pres ⟨ρ, av⟩ H ⟨ρ, av⟩ H' := ⟨rfl, ⟨[], by simp, by simp⟩, p.keep, p.dom⟩
/-- the store is as it was: the heap has grown -/
theorem RelSt.new {p : Addr} {o : HO} (R : RelSt K W s H) (h : H p = none) : RelSt K W s (upd H p o) :=
  ⟨R.len, R.nd, fun a q => ⟨(Pres.new (W := W) (o := o) h).dom a (R.avd a q).1, (R.avd a q).2⟩, fun n a q => by
    obtain ⟨ds, vs, e1, e2, e3, e4⟩ := R.cell n a q
    exact ⟨ds, vs, e1, by rw [upd_ne (ne_of_none e2 h)]; exact e2, Reps.pres (Pres.new h) e3, e4⟩, R.tabs.ext fun b o e => by rw [upd_ne (ne_of_none e h)]; exact e⟩
theorem RelSt.not_mem {p : Addr} (R : RelSt K W s H) (h : H p = none) : p ∉ W.rho := fun hin => by
  obtain ⟨k, hk⟩ := List.getElem?_of_mem hin
  obtain ⟨ds, vs, e1, e2, _⟩ := R.cell k p hk
  rw [h] at e2; cases e2
theorem RelSt.not_av {p : Addr} (R : RelSt K W s H) (h : H p = none) : p ∉ W.av := fun hin => Ob.no h (R.avd p hin).1
/-- a list at p that is not named by anything -/
structure Own (K : PySem.W.Frag) (W : Wd) (s : Sto) (H : Hp) (p : Addr) (ds : List D) (vs : List V) : Prop where
  at_ : H p = some (.lst vs)
  nav : p ∉ W.av
  rel : RelSt K (W.avo p) s H
  reps : Reps K (W.avo p) H ds vs
theorem LstAt.unavo {p a : Addr} {xs : List V} (h : LstAt K (W.avo p) H a xs) : LstAt K W H a xs := by
  rcases h with ⟨h, n, m⟩ | h | h
  · exact .inl ⟨h, n, fun z => m (List.mem_cons_of_mem _ z)⟩
  · exact .inr (.inl h)
  · exact .inr (.inr h)
theorem keeps_unavo {p : Addr} {b : Nat} : Keeps K (W.avo p) H W H b := ⟨fun _ _ q => q, fun _ _ q => q.unavo, fun _ _ _ q => q⟩
theorem RelSt.unavo {p : Addr} (R : RelSt K (W.avo p) s H) : RelSt K W s H :=
  ⟨R.len, R.nd, fun a q => R.avd a (List.mem_cons_of_mem _ q), fun n a q => by
    obtain ⟨ds, vs, e1, e2, e3, e4⟩ := R.cell n a q
    exact ⟨ds, vs, e1, e2, Reps.by keeps_unavo ds (reps_below ds e3) e3, e4⟩, R.tabs⟩
theorem Own.rep {p : Addr} {ds : List D} {vs : List V} (o : Own K W s H p ds vs) : Rep K W H (.lst ds) (.ref p) := by
  simp only [Rep]
  have q := o.rel.avd p List.mem_cons_self
  exact ⟨p, vs, rfl, .inl ⟨o.at_, q.2, o.nav⟩, Reps.by keeps_unavo ds (reps_below ds o.reps) o.reps⟩
/-- what is known ahead of a new object does not name it -/
theorem keeps_avo {p : Addr} {o : HO} {b : Nat} (h : H p = none) : Keeps K W H (W.avo p) (upd H p o) b :=
  ⟨fun _ _ q => SqT.pres (W := W) (Pres.new h) q, fun a xs q => by
    rcases q with ⟨q, n, m⟩ | ⟨u, q⟩ | q
    · have e := ne_of_none q h
      refine .inl ⟨by rw [upd_ne e]; exact q, n, fun z => ?_⟩
      rcases List.mem_cons.mp z with z | z
      · exact e z
      · exact m z
    · exact .inr (.inl ⟨u, by rw [upd_ne (ne_of_none q h)]; exact q⟩)
    · exact .inr (.inr q), fun _ _ _ q => q⟩
theorem RelSt.avo {p : Addr} {o : HO} (R : RelSt K W s H) (h : H p = none) (ho : ∀ ps, o ≠ .tbl ps) : RelSt K (W.avo p) s (upd H p o) :=
  ⟨R.len, R.nd, fun a q => by
    rcases List.mem_cons.mp q with q | q
    · subst q; exact ⟨⟨o, upd_same, ho⟩, R.not_mem h⟩
    · exact ⟨(Pres.new (W := W) (o := o) h).dom a (R.avd a q).1, (R.avd a q).2⟩, fun n a q => by
    obtain ⟨ds, vs, e1, e2, e3, e4⟩ := R.cell n a q
    exact ⟨ds, vs, e1, by rw [upd_ne (ne_of_none e2 h)]; exact e2, Reps.by (keeps_avo h) ds (reps_below ds e3) e3, e4⟩, R.tabs.ext fun b o e => by rw [upd_ne (ne_of_none e h)]; exact e⟩
/-- a new list of known items -/
theorem Own.new {p : Addr} {ds : List D} {vs : List V} (R : RelSt K W s H) (r : Reps K W H ds vs) (h : H p = none) : Own K W s (upd H p (.lst vs)) p ds vs :=
  ⟨upd_same, R.not_av h, R.avo h (fun _ z => nomatch z), Reps.by (keeps_avo h) ds (reps_below ds r) r⟩
theorem keeps_cell {p : Addr} {b : Nat} : Keeps K (W.avo p) H ⟨W.rho ++ [p], W.av⟩ H b :=
  ⟨fun _ _ q => q, fun a xs q => by
    rcases q with ⟨q, n, m⟩ | q | q
    · refine .inl ⟨q, fun z => ?_, fun z => m (List.mem_cons_of_mem _ z)⟩
      rcases List.mem_append.mp z with z | z
      · exact n z
      · exact m (by rw [List.mem_singleton.mp z]; exact List.mem_cons_self)
    · exact .inr (.inl q)
    · exact .inr (.inr q), fun n a _ q => by
      have q : W.rho[n]? = some a := q
      show (W.rho ++ [p])[n]? = some a
      rw [List.getElem?_append_left (List.getElem?_eq_some_iff.mp q).1]
      exact q⟩
/-- such a list becomes a cell -/
theorem Own.cell {p : Addr} {ds : List D} {vs : List V} (o : Own K W s H p ds vs) : RelSt K ⟨W.rho ++ [p], W.av⟩ (s ++ [.lst ds]) H := by
  have R := o.rel
  have q := R.avd p List.mem_cons_self
  have hl : W.rho.length = s.length := R.len
  refine ⟨by simp [hl], ?_, fun a z => ?_, fun n a z => ?_, R.tabs⟩
  · show (W.rho ++ [p]).Nodup
    have : W.rho.Nodup := R.nd
    rw [List.nodup_append]
    refine ⟨this, by simp, fun a ha b hb e => ?_⟩
    rw [List.mem_singleton.mp hb] at e
    subst e
    exact q.2 ha
  · have z2 := R.avd a (List.mem_cons_of_mem _ z)
    refine ⟨z2.1, fun h => ?_⟩
    rcases List.mem_append.mp h with h | h
    · exact z2.2 h
    · rw [List.mem_singleton.mp h] at z; exact o.nav z
  · have z : (W.rho ++ [p])[n]? = some a := z
    by_cases hn : n < W.rho.length
    · rw [List.getElem?_append_left hn] at z
      obtain ⟨ds', vs', e1, e2, e3, e4⟩ := R.cell n a z
      exact ⟨ds', vs', by rw [List.getElem?_append_left (by omega)]; exact e1, e2, Reps.by keeps_cell ds' (reps_below ds' e3) e3, e4⟩
    · have hn2 : n = W.rho.length := by
        have := (List.getElem?_eq_some_iff.mp z).1
        rw [List.length_append] at this
        simp at this
        omega
      subst hn2
      rw [List.getElem?_append_right (Nat.le_refl _)] at z
      simp at z
      subst z
      refine ⟨ds, vs, by rw [hl]; simp, o.at_, Reps.by keeps_cell ds (reps_below ds o.reps) o.reps, ?_⟩
      exact reps_below (W := W.avo p) ds o.reps
theorem tabs_put {T : List (Addr × Str)} {a : Addr} {xs ys : List V} (h : H a = some (.lst xs)) (t : LamX.Tabs T H) : LamX.Tabs T (upd H a (.lst ys)) := fun p hp => by
  obtain ⟨ps, e1, e2, e3⟩ := t p hp
  have n1 : p.1 ≠ a := fun z => by rw [z, h] at e1; cases e1
  refine ⟨ps, by rw [upd_ne n1]; exact e1, e2, fun pos cv hc => ?_⟩
  obtain ⟨c, f1, f2⟩ := e3 pos cv hc
  have n2 : c ≠ a := fun z => by
    rw [z, h] at f2
    unfold LamX.CodeO at f2
    cases f2
  exact ⟨c, f1, by rw [upd_ne n2]; exact f2⟩
/-- a cell's new contents -/
theorem RelSt.put {n : Nat} {a : Addr} {ds : List D} {vs : List V} (R : RelSt K W s H) (h : W.rho[n]? = some a) (r : Reps K W H ds vs) (b : belows n ds = true) :
    RelSt K W (s.set n (.lst ds)) (upd H a (.lst vs)) ∧ Pres W H W (upd H a (.lst vs)) := by
  obtain ⟨ds0, vs0, c1, c2, _, _⟩ := R.cell n a h
  have ha := List.mem_of_getElem? h
  have p : Pres W H W (upd H a (.lst vs)) := by
    refine ⟨rfl, ⟨[], by simp, by simp⟩, fun b o e hm _ => ?_, fun b ⟨o, e, z⟩ => ?_⟩
    · have : b ≠ a := fun z => by
        subst z
        rw [c2] at e
        cases e
        exact hm trivial ha
      rw [upd_ne this]; exact e
    · by_cases q : b = a
      · subst q; exact ⟨_, upd_same, fun _ z => nomatch z⟩
      · exact ⟨o, by rw [upd_ne q]; exact e, z⟩
  refine ⟨⟨by rw [List.length_set]; exact R.len, R.nd, fun b q => ⟨p.dom b (R.avd b q).1, (R.avd b q).2⟩, fun m b q => ?_, tabs_put c2 R.tabs⟩, p⟩
  by_cases hm : m = n
  · subst hm
    rw [h] at q
    cases q
    exact ⟨ds, vs, by rw [List.getElem?_set_self (List.getElem?_eq_some_iff.mp c1).1], upd_same, Reps.pres p r, b⟩
  · obtain ⟨ds', vs', e1, e2, e3, e4⟩ := R.cell m b q
    have hb : b ≠ a := fun z => by
      subst z
      exact hm (nodup_at R.nd q h)
    exact ⟨ds', vs', by rw [List.getElem?_set_ne (Ne.symm hm)]; exact e1, by rw [upd_ne hb]; exact e2, Reps.pres p e3, e4⟩
/-- from a state ahead: the new cell stood not there -/
theorem Pres.cell {p : Addr} (a : Pres W H W1 H1) (h : ¬ Ob H p) : Pres W H ⟨W1.rho ++ [p], W1.av⟩ H1 := by
  obtain ⟨v1, ⟨l1, e1, n1⟩, k1, d1⟩ := a
  refine ⟨v1, ⟨l1 ++ [p], by simp [e1], fun b hb => ?_⟩, k1, d1⟩
  rcases List.mem_append.mp hb with hb | hb
  · exact n1 b hb
  · rw [List.mem_singleton.mp hb]; exact h
/-- what stays, kept from a list apart -/
theorem Pres.avo {p : Addr} (a : Pres W H W1 H1) : Pres (W.avo p) H (W1.avo p) H1 :=
  ⟨by show p :: W1.av = p :: W.av; rw [a.av], a.ext, a.keep, a.dom⟩
theorem Pres.of_avo {p : Addr} {W2 : Wd} (a : Pres (W.avo p) H W2 H1) : ∃ W1, W2 = W1.avo p ∧ Pres W H W1 H1 := by
  refine ⟨⟨W2.rho, W.av⟩, ?_, rfl, a.ext, a.keep, a.dom⟩
  have e : W2.av = p :: W.av := a.av
  cases W2
  simp only at e
  subst e
  rfl
end
end Pv
end
section
set_option maxRecDepth 100000
set_option maxHeartbeats 4000000
namespace Pv
open PySem PySem.Spec PyProof.Rows L2
/-! ### what an evaluation leaves -/
structure Got (K : PySem.W.Frag) (fr : Bool) (W : Wd) (H : Hp) (W' : Wd) (s' : Sto) (H' : Hp) (d : D) (v : V) : Prop where
  pres : Pres W H W' H'
  st : RelSt K W' s' H'
  rep : Rep K W' H' d v
  own : fr = true → ∀ ds, d = .lst ds → ∃ p vs, v = .ref p ∧ ¬ Ob H p ∧ Own K W' s' H' p ds vs
section
variable {K : PySem.W.Frag} {fr : Bool} {W W' W1 : Wd} {H H' H1 : Hp} {s s' s1 : Sto} {d : D} {v : V}
def D.isLst : D → Bool
  | .lst _ => true
  | _ => false
theorem Got.val (R : RelSt K W s H) (r : Rep K W H d v) (h : d.isLst = false) : Got K fr W H W s H d v :=
  ⟨Pres.refl, R, r, fun _ ds e => by subst e; cases h⟩
theorem Got.old (R : RelSt K W s H) (r : Rep K W H d v) : Got K false W H W s H d v :=
  ⟨Pres.refl, R, r, fun e => nomatch e⟩
theorem Got.tupNew {ds : List D} {vs : List V} {p : Addr} (R : RelSt K W s H) (r : Reps K W H ds vs) (h : H p = none) : Got K fr W H W s (upd H p (.tup vs)) (.tup ds) (.ref p) :=
  ⟨Pres.new h, R.new h, ⟨p, vs, rfl, SqT.of upd_same, Reps.pres (Pres.new h) r⟩, fun _ _ e => nomatch e⟩
theorem Got.lstNew {ds : List D} {vs : List V} {p : Addr} (R : RelSt K W s H) (r : Reps K W H ds vs) (h : H p = none) : Got K fr W H W s (upd H p (.lst vs)) (.lst ds) (.ref p) := by
  have o := Own.new R r h
  exact ⟨Pres.new h, o.rel.unavo, o.rep, fun _ ds' e => by cases e; exact ⟨p, vs, rfl, Ob.no h, o⟩⟩
theorem Got.trans {fr' : Bool} (p : Pres W H W1 H1) (g : Got K fr W1 H1 W' s' H' d v) : Got K fr W H W' s' H' d v :=
  ⟨p.trans g.pres, g.st, g.rep, fun e ds q => by
    obtain ⟨a, vs, e1, e2, o⟩ := g.own e ds q
    exact ⟨a, vs, e1, fun z => e2 (p.dom a z), o⟩⟩
/-! ### a value read -/
theorem rd_cases (R : RelSt K W s H) (r : Rep K W H d v) : rd s d = d ∨ ∃ ds p vs, rd s d = .lst ds ∧ v = .ref p ∧ SqL K H p vs ∧ Reps K W H ds vs := by
  cases d with
  | loc n =>
    simp only [Rep] at r
    obtain ⟨a, e, q⟩ := r
    obtain ⟨ds, vs, e1, e2, e3, _⟩ := R.cell n a q
    exact .inr ⟨ds, a, vs, by simp [rd, List.getD_eq_getElem?_getD, e1], e, SqL.of e2, e3⟩
  | _ => exact .inl rfl
theorem rd_int {i : Int} (R : RelSt K W s H) (r : Rep K W H d v) (e : rd s d = .int i) : v = .int i := by
  rcases rd_cases R r with q | ⟨ds, p, vs, q, _⟩
  · rw [q] at e; subst e; simpa [Rep] using r
  · rw [q] at e; cases e
theorem rd_bl {i : Bool} (R : RelSt K W s H) (r : Rep K W H d v) (e : rd s d = .bl i) : v = .bl i := by
  rcases rd_cases R r with q | ⟨ds, p, vs, q, _⟩
  · rw [q] at e; subst e; simpa [Rep] using r
  · rw [q] at e; cases e
theorem rd_str {i : Str} (R : RelSt K W s H) (r : Rep K W H d v) (e : rd s d = .str i) : v = .str i := by
  rcases rd_cases R r with q | ⟨ds, p, vs, q, _⟩
  · rw [q] at e; subst e; simpa [Rep] using r
  · rw [q] at e; cases e
theorem rd_non (R : RelSt K W s H) (r : Rep K W H d v) (e : rd s d = .non) : v = .non := by
  rcases rd_cases R r with q | ⟨ds, p, vs, q, _⟩
  · rw [q] at e; subst e; simpa [Rep] using r
  · rw [q] at e; cases e
theorem rd_tup {ds : List D} (R : RelSt K W s H) (r : Rep K W H d v) (e : rd s d = .tup ds) : ∃ p vs, v = .ref p ∧ SqT K H p vs ∧ Reps K W H ds vs := by
  rcases rd_cases R r with q | ⟨ds, p, vs, q, _⟩
  · rw [q] at e; subst e; simpa [Rep] using r
  · rw [q] at e; cases e
theorem rd_lst {ds : List D} (R : RelSt K W s H) (r : Rep K W H d v) (e : rd s d = .lst ds) : ∃ p vs, v = .ref p ∧ SqL K H p vs ∧ Reps K W H ds vs := by
  rcases rd_cases R r with q | ⟨ds', p, vs, q, q2, q3, q4⟩
  · rw [q] at e
    subst e
    simp only [Rep] at r
    obtain ⟨a, vs, e1, e2, e3⟩ := r
    exact ⟨a, vs, e1, e2.sq, e3⟩
  · rw [q] at e; cases e
    exact ⟨p, vs, q2, q3, q4⟩
end
theorem big_eq : big = sizeLine := by rw [sizeLine_eq]; rfl
section
variable {X : Cx} {pins : List (Addr × Obj)} {σ : L2.St} {H : Hp} {s : Shared}
/-! ### rules that lack -/
def rCatL (K : PySem.W.Frag) : R2 := fun x y H Q => ∃ l b xs zs, x = .ref l ∧ y = .ref b ∧ SqL K H l xs ∧ SqL K H b zs ∧ xs.length + zs.length ≤ sizeLine ∧ ∀ p, H p = none → Q (.ref p) (upd H p (.lst (xs ++ zs)))
theorem op_catL : OpR X (binaryOp .Add) (rCatL X.K) := by
  intro pins s σ H x y v u Q I rx ry h
  obtain ⟨l, b, xs, zs, rfl, rfl, hH, hB, hz, q⟩ := h
  cases rx
  cases ry
  obtain ⟨its, r, pl, _⟩ := I.list hH
  obtain ⟨its2, r2, pl2, _⟩ := I.list hB
  have hl := r.length
  have hl2 := r2.length
  obtain ⟨⟨cls, dd, data, sl⟩, ho, hc, n, hd⟩ := id pl.isList
  obtain ⟨⟨cls2, dd2, data2, sl2⟩, ho2, hc2, n2, hd2⟩ := id pl2.isList
  simp only at hc hd hc2 hd2
  subst hc hd hc2 hd2
  refine concat_meets ⟨_, ho, rfl⟩ ⟨_, ho2, rfl⟩ noFill_list_add seq_list_add PySem.F.slot_list_add PySem.F.entry_list_add (PySem.F.args_list_add_2 _ _) (list_addW l b its.toArray its2.toArray n n2 dd dd2 sl sl2 (by simp only [List.size_toArray]; omega)) ⟨ho, ho2, ?_⟩
  have ea : its.toArray ++ its2.toArray = (its ++ its2).toArray := by simp
  rw [ea]
  exact ⟨.ref _, _, I.lnew (t' := s.toks) (r.append r2) (by rw [List.length_append]; omega), rfl, q _ I.fresh⟩
theorem int_rmul_any (a : Int) (t : Tok) (l : Addr) (items : Array Value) (n : Nat) (dd : Option Addr) (sl : Array (Option Value)) :
    Meets (Builtin.«int.__rmul__» ⟨[.int a t, .ref l], []⟩) (fun _ R s => s.heap.get? l = some { cls := .type "list", dict := dd, data := .seq items n, slots := sl } ∧ R (.ok (.ret Value.notImplemented)) s) :=
  .of_wp fun prog w A R s h => by obtain ⟨hp, g, d, tk, os⟩ := s; obtain ⟨hl, h⟩ := h; wp_walk using wpAny_loadPart' hl; exact ⟨_, rfl, h⟩
theorem list_mul_any (l : Addr) (items : Array Value) (n : Nat) (dd : Option Addr) (sl : Array (Option Value)) (x : Int) (u : Tok) (c0 : ¬ (!Builtin.List.listFitsIndex x) = true)
    (c1 : ¬ items.size * x.toNat > (2 ^ 63 - 1) / 8) (c2 : ¬ Builtin.List.listTooLong (items.size * x.toNat) = true)
    (c3 : ¬ (List.foldl (fun x1 x2 => x1 ++ x2) #[] (List.replicate (if items.isEmpty = true then 0 else x.toNat) items)).size > sizeLine) :
    Meets (Builtin.«list.__mul__» ⟨[.ref l, .int x u], []⟩) (fun _ R s => s.heap.get? l = some { cls := .type "list", dict := dd, data := .seq items n, slots := sl } ∧
      R (.ok (.ret (Value.ref s.heap.objs.size))) { s with heap := s.heap.push { cls := Value.type "list", data := Data.seq (List.foldl (fun x1 x2 => x1 ++ x2) #[] (List.replicate (if items.isEmpty = true then 0 else x.toNat) items)) } }) :=
  .of_wp fun prog w A R s h => by
    obtain ⟨hp, g, d, tk, os⟩ := s
    obtain ⟨hl, h⟩ := h
    have f1 := AutoSeq1.idx_int
    wp_walk using wpAny_loadPart' hl
    repeat (first
      | (refine wpAny_ite_false (decide_eq_false c0) ?_; wp_walk using wpAny_loadPart' hl)
      | (refine wpAny_ite_false (decide_eq_false c1) ?_; wp_walk using wpAny_loadPart' hl)
      | (refine wpAny_ite_false (decide_eq_false c2) ?_; wp_walk using wpAny_loadPart' hl)
      | (refine wpAny_ite_false (decide_eq_false c3) ?_; wp_walk using wpAny_loadPart' hl))
    exact ⟨_, rfl, h⟩
def rRepL (K : PySem.W.Frag) : R2 := fun x y H Q => ∃ l k xs, x = .ref l ∧ y = .int k ∧ SqL K H l xs ∧ -(2 ^ 63) ≤ k ∧ k < 2 ^ 63 ∧ xs.length * k.toNat ≤ sizeLine ∧
  ∀ p, H p = none → Q (.ref p) (upd H p (.lst (List.replicate k.toNat xs).flatten))
theorem op_repL : OpR X (binaryOp .Mult) (rRepL X.K) := by
  intro pins s σ H x y v u Q I rx ry h
  obtain ⟨l, k, xs, rfl, rfl, hH, h1, h2, hz, q⟩ := h
  cases rx
  obtain ⟨t, rfl⟩ := ry
  obtain ⟨its, r, pl, _⟩ := I.list hH
  have hl := r.length
  obtain ⟨⟨cls, dd, data, sl⟩, ho, hc, n, hd⟩ := id pl.isList
  simp only at hc hd
  subst hc hd
  have hlen : its.toArray.size * k.toNat ≤ sizeLine := by rw [List.size_toArray, ← hl]; exact hz
  have hcap : ¬ its.toArray.size * k.toNat > (2 ^ 63 - 1) / 8 := by
    have : (sizeLine : Nat) ≤ (2 ^ 63 - 1) / 8 := by decide
    omega
  have hfit : ¬ (!Builtin.List.listFitsIndex k) = true := by
    rw [fitsIndex_both h1 h2]
    exact Bool.false_ne_true
  have hlong : ¬ Builtin.List.listTooLong (its.toArray.size * k.toNat) = true := by
    rw [notLongL hlen]
    exact Bool.false_ne_true
  have hnew : List.foldl (fun x1 x2 => x1 ++ x2) #[] (List.replicate (if its.toArray.isEmpty = true then 0 else k.toNat) its.toArray) = (List.replicate k.toNat its).flatten.toArray := by
    have f0 : ∀ m : Nat, List.foldl (fun x1 x2 => x1 ++ x2) #[] (List.replicate m its.toArray) = (List.replicate m its).flatten.toArray := fun m => by
      have := foldl_rep its m []
      rw [List.nil_append] at this
      exact this
    rw [f0]
    cases its with
    | nil => simp
    | cons a r' => rw [if_neg (by simp)]
  refine wpAny_binaryOp_repeat_ref (T := "list") (U := "int") (by decide) ⟨_, ho, rfl⟩ (fun s' => typeIs_int s' k t) noFill_list_mul F.fills_int_mul F.slot_int_rmul repeat_list F.slot_int_index.lookup
    (call_meets F.slot_int_rmul (typeIs_int s k t) F.entry_int_rmul (F.args_int_rmul_2 _ _) (int_rmul_any k t l its.toArray n dd sl)
      ⟨ho, rfl, ⟨_, ho, rfl⟩, call_meets F.slot_list_mul ⟨_, ho, rfl⟩ F.entry_list_mul (F.args_list_mul_2 _ _) (list_mul_any l its.toArray n dd sl k t hfit hcap hlong (by
        rw [hnew, List.size_toArray, PyProof.Rows.lm_len_rep_flat, ← hl, Nat.mul_comm]; omega)) ⟨ho, ?_⟩⟩)
  rw [hnew]
  exact ⟨.ref _, _, I.lnew (t' := s.toks) (r.rep k.toNat) (by rw [PyProof.Rows.lm_len_rep_flat, Nat.mul_comm]; exact hz), rfl, q _ I.fresh⟩
theorem tuple_mul_one (l : Addr) (items : Array Value) (n : Nat) (dd : Option Addr) (sl : Array (Option Value)) (x : Int) (u : Tok) (c0 : (decide (x < -(2 ^ 63)) || decide (x ≥ 2 ^ 63)) = false) (c1 : (items.isEmpty || x == 1) = true) :
    Meets (Builtin.«tuple.__mul__» ⟨[.ref l, .int x u], []⟩) (fun _ R s => s.heap.get? l = some { cls := .type "tuple", dict := dd, data := .seq items n, slots := sl } ∧ R (.ok (.ret (Value.ref l))) s) :=
  .of_wp fun prog w A R s h => by
    obtain ⟨hp, g, d, tk, os⟩ := s
    obtain ⟨hl, h⟩ := h
    have f1 := AutoSeq1.idx_int
    wp_walk using wpAny_loadPart' hl
    repeat (first
      | (refine wpAny_ite_false (decide_eq_false (by rw [c0]; exact Bool.false_ne_true)) ?_; wp_walk using wpAny_loadPart' hl)
      | (refine wpAny_ite_true (decide_eq_true c1) ?_; wp_walk using wpAny_loadPart' hl))
    exact ⟨_, rfl, h⟩
def rRepU (K : PySem.W.Frag) : R2 := fun x y H Q => ∃ l k xs, x = .ref l ∧ y = .int k ∧ SqT K H l xs ∧ 1 ≤ k ∧ k ≤ 1000 ∧ xs.length ≤ 1000 ∧ ((xs = [] ∨ k = 1) → Q (.ref l) H) ∧
  (xs ≠ [] → 2 ≤ k → ∀ p, H p = none → Q (.ref p) (upd H p (.tup (List.replicate k.toNat xs).flatten)))
theorem op_repU : OpR X (binaryOp .Mult) (rRepU X.K) := by
  intro pins s σ H x y v u Q I rx ry h
  obtain ⟨l, k, xs, rfl, rfl, hT, h1, h2, hz, q1, q2⟩ := h
  by_cases hc : xs = [] ∨ k = 1
  · cases rx
    obtain ⟨t, rfl⟩ := ry
    obtain ⟨its, r, ⟨⟨cls, dd, data, sl⟩, ho, hcl, n, hd⟩, hs⟩ := I.tuple hT
    simp only at hcl hd
    subst hcl hd
    have hle : its.length = xs.length := r.length.symm
    have c1 : (its.toArray.isEmpty || k == 1) = true := by
      rcases hc with e | e
      · subst e
        have : its = [] := List.eq_nil_of_length_eq_zero (by simpa using hle)
        subst this
        rfl
      · subst e; simp
    have c0 : (decide (k < -(2 ^ 63)) || decide (k ≥ 2 ^ 63)) = false := by
      rw [decide_eq_false (by omega), decide_eq_false (by omega)] <;> rfl
    exact wpAny_binaryOp_repeat_ref (T := "tuple") (U := "int") (by decide) ⟨_, ho, rfl⟩ (fun s' => typeIs_int s' k t) noFill_tuple_mul F.fills_int_mul F.slot_int_rmul repeat_tuple F.slot_int_index.lookup
      (call_meets F.slot_int_rmul (typeIs_int s k t) F.entry_int_rmul (F.args_int_rmul_2 _ _) (int_rmul_tuple k t l its.toArray n dd sl)
        ⟨ho, rfl, ⟨_, ho, rfl⟩, call_meets F.slot_tuple_mul ⟨_, ho, rfl⟩ F.entry_tuple_mul (F.args_tuple_mul_2 _ _) (tuple_mul_one l its.toArray n dd sl k t c0 c1) ⟨ho, ⟨.ref l, H, I, rfl, q1 hc⟩⟩⟩)
  · have h3 : xs ≠ [] := fun e => hc (.inl e)
    have h4 : 2 ≤ k := by
      have : k ≠ 1 := fun e => hc (.inr e)
      omega
    exact op_repT pins s σ H _ _ v u Q I rx ry ⟨l, k, xs, rfl, rfl, hT, h3, h4, h2, hz, q2 h3 h4⟩
/-! ### two-place operators -/
def opOf : Op → Operator
  | .add => .Add | .sub => .Sub | .mul => .Mult | .fdiv => .FloorDiv | .mod => .Mod | .pow => .Pow
def rBin (K : PySem.W.Frag) (o : Op) : R2 := fun x y H Q => ∃ W s a b d, RelSt K W s H ∧ Rep K W H a x ∧ Rep K W H b y ∧ binD o (rd s a) (rd s b) = some d ∧ ∀ v H', Got K true W H W s H' d v → Q v H'
theorem mulOk_ok {i j : Int} (h : mulOk i j = true) : IntMulOk i j := by
  unfold mulOk at h
  simp only [Bool.or_eq_true, decide_eq_true_eq] at h
  rcases h with (h | h) | h
  · exact .of_left (intBits_le_64 h.1 h.2)
  · exact .of_right (intBits_le_64 h.1 h.2)
  · exact CMulW.ok (show _ + _ < 1000000 by omega)
theorem Reps.rep {K : PySem.W.Frag} {W : Wd} {H : Hp} {ds : List D} {vs : List V} (h : Reps K W H ds vs) : ∀ n, Reps K W H (List.replicate n ds).flatten (List.replicate n vs).flatten
  | 0 => by simp [Reps]
  | n + 1 => by
    rw [List.replicate_succ, List.replicate_succ, List.flatten_cons, List.flatten_cons]
    exact Reps.append h (Reps.rep h n)
theorem op_bin : ∀ o : Op, OpR X (binaryOp (opOf o)) (rBin X.K o) := by
  intro o pins s σ H x y v u Q I rx ry h
  obtain ⟨W, st, a, b, d, R, ha, hb, e, q⟩ := h
  have bg := big_eq
  unfold binD at e
  split at e
  · rename_i i j h1 h2
    cases e
    exact op_add pins s σ H x y v u Q I rx ry ⟨i, j, rd_int R ha h1, rd_int R hb h2, q _ _ (Got.val R rfl rfl)⟩
  · rename_i xs ys h1 h2
    split at e
    · rename_i hz
      cases e
      obtain ⟨p, vs, e1, t1, r1⟩ := rd_tup R ha h1
      obtain ⟨p2, ws, e2, t2, r2⟩ := rd_tup R hb h2
      have l1 := r1.length
      have l2 := r2.length
      refine op_catA pins s σ H x y v u Q I rx ry ⟨p, p2, vs, ws, e1, e2, t1, t2, by rw [← bg]; omega, fun z => ?_, fun _ z => ?_, fun _ _ p3 n3 => ?_⟩
      · have : xs = [] := List.eq_nil_of_length_eq_zero (by rw [l1, z]; rfl)
        subst this
        exact q _ _ (Got.val R (by simp only [List.nil_append, Rep]; exact ⟨p2, ws, rfl, t2, r2⟩) rfl)
      · have : ys = [] := List.eq_nil_of_length_eq_zero (by rw [l2, z]; rfl)
        subst this
        exact q _ _ (Got.val R (by simp only [List.append_nil, Rep]; exact ⟨p, vs, rfl, t1, r1⟩) rfl)
      · exact q _ _ (Got.tupNew R (r1.append r2) n3)
    · cases e
  · rename_i xs ys h1 h2
    split at e
    · rename_i hz
      cases e
      obtain ⟨p, vs, e1, t1, r1⟩ := rd_lst R ha h1
      obtain ⟨p2, ws, e2, t2, r2⟩ := rd_lst R hb h2
      have l1 := r1.length
      have l2 := r2.length
      exact op_catL pins s σ H x y v u Q I rx ry ⟨p, p2, vs, ws, e1, e2, t1, t2, by rw [← bg]; omega, fun p3 n3 => q _ _ (Got.lstNew R (r1.append r2) n3)⟩
    · cases e
  · rename_i i j h1 h2
    split at e
    · rename_i hz
      cases e
      exact op_add_str pins s σ H x y v u Q I rx ry ⟨i, j, rd_str R ha h1, rd_str R hb h2, by rw [← bg]; exact hz, q _ _ (Got.val R rfl rfl)⟩
    · cases e
  · rename_i i j h1 h2
    cases e
    exact op_sub pins s σ H x y v u Q I rx ry ⟨i, j, rd_int R ha h1, rd_int R hb h2, q _ _ (Got.val R rfl rfl)⟩
  · rename_i i j h1 h2
    split at e
    · rename_i hz
      cases e
      exact opI (C := fun i j => mulOk i j = true) (fun _ _ _ _ _ _ _ hc q => mul_int q (mulOk_ok hc)) pins s σ H x y v u Q I rx ry ⟨i, j, rd_int R ha h1, rd_int R hb h2, hz, q _ _ (Got.val R rfl rfl)⟩
    · cases e
  · rename_i xs k h1 h2
    split at e
    · rename_i hz
      cases e
      obtain ⟨p, vs, e1, t1, r1⟩ := rd_tup R ha h1
      have l1 := r1.length
      refine op_repU pins s σ H x y v u Q I rx ry ⟨p, k, vs, e1, rd_int R hb h2, t1, hz.2.2, hz.2.1, by omega, fun z => ?_, fun _ _ p3 n3 => ?_⟩
      · refine q _ _ (Got.val R ?_ rfl)
        have ek : repD k xs = xs := by
          rcases z with z | z
          · have : xs = [] := List.eq_nil_of_length_eq_zero (by rw [l1, z]; rfl)
            subst this
            unfold repD
            simp
          · subst z
            unfold repD
            simp
        rw [ek]
        exact ⟨p, vs, rfl, t1, r1⟩
      · exact q _ _ (Got.tupNew R (r1.rep _) n3)
    · cases e
  · rename_i xs k h1 h2
    split at e
    · rename_i hz
      cases e
      obtain ⟨p, vs, e1, t1, r1⟩ := rd_lst R ha h1
      have l1 := r1.length
      exact op_repL pins s σ H x y v u Q I rx ry ⟨p, k, vs, e1, rd_int R hb h2, t1, by omega, by omega, by rw [← bg, ← l1]; exact hz.2.2, fun p3 n3 => q _ _ (Got.lstNew R (r1.rep _) n3)⟩
    · cases e
  · rename_i i j h1 h2
    split at e
    · rename_i hz
      cases e
      unfold divOk at hz
      simp only [Bool.and_eq_true, decide_eq_true_eq] at hz
      refine opI (C := fun i j => j ≠ 0 ∧ j.natAbs.log2 < 9000) (g := fdivZ) (fun i j _ _ _ _ _ hc q => ?_) pins s σ H x y v u Q I rx ry ⟨i, j, rd_int R ha h1, rd_int R hb h2, hz, q _ _ (Got.val R rfl rfl)⟩
      refine floordiv_int hc.1 ?_ (.inl (PyProof.noPylong_of_log2 hc.2))
      unfold fdivZ at q
      split at q
      · rw [Int.fdiv_eq_ediv_of_nonneg i (by omega)]; exact q
      · exact q
    · cases e
  · rename_i i j h1 h2
    split at e
    · rename_i hz
      cases e
      refine opI (C := fun i j => j ≠ 0) (g := modZ) (fun i j _ _ _ _ _ hc q => ?_) pins s σ H x y v u Q I rx ry ⟨i, j, rd_int R ha h1, rd_int R hb h2, hz, q _ _ (Got.val R rfl rfl)⟩
      refine mod_int' hc ?_
      unfold modZ at q
      split at q
      · rw [Int.fmod_eq_emod_of_nonneg i (by omega)]; exact q
      · exact q
    · cases e
  · rename_i i j h1 h2
    split at e
    · rename_i hz
      cases e
      exact op_pow pins s σ H x y v u Q I rx ry ⟨i, j, rd_int R ha h1, rd_int R hb h2, hz, q _ _ (Got.val R rfl rfl)⟩
    · cases e
  · cases e
end
end Pv
end
section
set_option maxRecDepth 100000
set_option maxHeartbeats 4000000
namespace Pv
open PySem PySem.Spec PyProof.Rows L2
/-! ### plain values as the library's data -/
mutual
def toPy : D → PyData
  | .bl b => .bool b
  | .int i => .int i
  | .str x => .str x
  | .tup xs => .tuple (toPys xs)
  | .lst xs => .list (toPys xs)
  | _ => .none
def toPys : List D → List PyData
  | [] => []
  | x :: r => toPy x :: toPys r
end
mutual
theorem plain_lay : ∀ (d : D) (k : Nat), plain k d = true → (toPy d).canLay0 = true ∧ (toPy d).depth ≤ k
  | .non, k, _ => by simp [toPy, PyData.canLay0, PyData.depth]
  | .bl _, k, _ => by simp [toPy, PyData.canLay0, PyData.depth]
  | .int _, k, _ => by simp [toPy, PyData.canLay0, PyData.depth]
  | .str x, k, h => by
    simp only [plain] at h
    simp only [toPy, PyData.canLay0, PyData.depth]
    exact ⟨h, Nat.zero_le _⟩
  | .tup xs, 0, h => by simp [plain] at h
  | .tup xs, k + 1, h => by
    simp only [plain] at h
    have q := plains_lay xs k h
    simp only [toPy, PyData.canLay0, PyData.depth]
    exact ⟨q.1, by omega⟩
  | .lst xs, 0, h => by simp [plain] at h
  | .lst xs, k + 1, h => by
    simp only [plain] at h
    have q := plains_lay xs k h
    simp only [toPy, PyData.canLay0, PyData.depth]
    exact ⟨q.1, by omega⟩
  | .dct _ _, _, h => by simp [plain] at h
  | .set _, _, h => by simp [plain] at h
  | .loc _, _, h => by simp [plain] at h
theorem plains_lay : ∀ (ds : List D) (k : Nat), plains k ds = true → PyData.canLayAll0 (toPys ds) = true ∧ PyData.depthAll (toPys ds) ≤ k
  | [], k, _ => by simp [toPys, PyData.canLayAll0, PyData.depthAll]
  | d :: ds, k, h => by
    simp only [plains, Bool.and_eq_true] at h
    have q1 := plain_lay d k h.1
    have q2 := plains_lay ds k h.2
    simp only [toPys, PyData.canLayAll0, PyData.depthAll, Bool.and_eq_true]
    exact ⟨⟨q1.1, q2.1⟩, by omega⟩
end
theorem shaped_toPy {d : D} (h : plain 60 d = true) : SeqAt.shaped (toPy d) = true := by
  have q := plain_lay d 60 h
  unfold SeqAt.shaped
  rw [q.1, decide_eq_true (by omega : (toPy d).depth ≤ 64)] <;> rfl
mutual
theorem eqv_toPy : ∀ (a b : D) (k m : Nat), plain k a = true → plain m b = true → eqv a b = PyData.eqv (toPy a) (toPy b)
  | .non, b, k, m, _, hb => by cases b <;> first | rfl | (simp [plain] at hb)
  | .bl _, b, k, m, _, hb => by cases b <;> first | rfl | (simp [plain] at hb)
  | .int _, b, k, m, _, hb => by cases b <;> first | rfl | (simp [plain] at hb)
  | .str _, b, k, m, _, hb => by cases b <;> first | rfl | (simp [plain] at hb)
  | .tup xs, b, k, m, ha, hb => by
    cases b with
    | tup ys =>
      cases k with
      | zero => simp [plain] at ha
      | succ k =>
        cases m with
        | zero => simp [plain] at hb
        | succ m =>
          simp only [plain] at ha hb
          simp only [toPy, eqv, PyData.eqv]
          exact eqvs_toPy xs ys k m ha hb
    | _ => first | rfl | (simp [plain] at hb)
  | .lst xs, b, k, m, ha, hb => by
    cases b with
    | lst ys =>
      cases k with
      | zero => simp [plain] at ha
      | succ k =>
        cases m with
        | zero => simp [plain] at hb
        | succ m =>
          simp only [plain] at ha hb
          simp only [toPy, eqv, PyData.eqv]
          exact eqvs_toPy xs ys k m ha hb
    | _ => first | rfl | (simp [plain] at hb)
  | .dct _ _, _, _, _, ha, _ => by simp [plain] at ha
  | .set _, _, _, _, ha, _ => by simp [plain] at ha
  | .loc _, _, _, _, ha, _ => by simp [plain] at ha
theorem eqvs_toPy : ∀ (as bs : List D) (k m : Nat), plains k as = true → plains m bs = true → eqvs as bs = PyData.eqvAll (toPys as) (toPys bs)
  | [], [], _, _, _, _ => rfl
  | [], _ :: _, _, _, _, _ => rfl
  | _ :: _, [], _, _, _, _ => rfl
  | a :: as, b :: bs, k, m, ha, hb => by
    simp only [plains, Bool.and_eq_true] at ha hb
    simp only [toPys, eqvs, PyData.eqvAll]
    rw [eqv_toPy a b k m ha.1 hb.1, eqvs_toPy as bs k m ha.2 hb.2]
end
section
variable {K : PySem.W.Frag} {W : Wd} {H : Hp}
mutual
theorem rep_dp : ∀ (d : D) (k : Nat) {v : V}, plain k d = true → Rep K W H d v → Dp K H v (toPy d)
  | .non, _, _, _, h => by simp only [Rep] at h; subst h; exact .non
  | .bl _, _, _, _, h => by simp only [Rep] at h; subst h; exact .bl _
  | .int _, _, _, _, h => by simp only [Rep] at h; subst h; exact .int _
  | .str _, _, _, _, h => by simp only [Rep] at h; subst h; exact .str _
  | .tup xs, 0, _, p, _ => by simp [plain] at p
  | .tup xs, k + 1, _, p, h => by
    simp only [plain] at p
    simp only [Rep] at h
    obtain ⟨a, vs, e, t, r⟩ := h
    subst e
    exact .tup t (reps_dp xs k p r)
  | .lst xs, 0, _, p, _ => by simp [plain] at p
  | .lst xs, k + 1, _, p, h => by
    simp only [plain] at p
    simp only [Rep] at h
    obtain ⟨a, vs, e, t, r⟩ := h
    subst e
    exact .lst t.sq (reps_dp xs k p r)
  | .dct _ _, _, _, p, _ => by simp [plain] at p
  | .set _, _, _, p, _ => by simp [plain] at p
  | .loc _, _, _, p, _ => by simp [plain] at p
theorem reps_dp : ∀ (ds : List D) (k : Nat) {vs : List V}, plains k ds = true → Reps K W H ds vs → DpAll K H vs (toPys ds)
  | [], _, _, _, h => by simp only [Reps] at h; subst h; exact .nil
  | d :: ds, k, _, p, h => by
    simp only [plains, Bool.and_eq_true] at p
    simp only [Reps] at h
    obtain ⟨v, r, e, h1, h2⟩ := h
    subst e
    exact .cons (rep_dp d k p.1 h1) (reps_dp ds k p.2 h2)
end
end
theorem memD_toPy {a : D} {k m : Nat} (ha : plain k a = true) : ∀ xs : List D, plains m xs = true → memD a xs = (toPys xs).any fun z => PyData.eqv z (toPy a)
  | [], _ => rfl
  | x :: r, h => by
    simp only [plains, Bool.and_eq_true] at h
    simp only [memD, toPys, List.any_cons]
    rw [eqv_toPy x a m k h.1 ha, memD_toPy ha r h.2]
section
variable {X : Cx}
def rInT (K : PySem.W.Frag) : R2 := fun x y H Q => ∃ d ds, Dp K H x d ∧ Dp K H y (.tuple ds) ∧ SeqAt.shaped d = true ∧ SeqAt.shaped (.tuple ds) = true ∧ Q (.bl (ds.any fun z => PyData.eqv z d)) H
def rNotInT (K : PySem.W.Frag) : R2 := fun x y H Q => ∃ d ds, Dp K H x d ∧ Dp K H y (.tuple ds) ∧ SeqAt.shaped d = true ∧ SeqAt.shaped (.tuple ds) = true ∧ Q (.bl (!ds.any fun z => PyData.eqv z d)) H
theorem op_inT (hu : X.A.units + 65 < cLine) : OpR X (compareOp .In) (rInT X.K) := by
  intro pins s σ H x y v u Q I rx ry h
  obtain ⟨d, ds, hd, he, sd, se, q⟩ := h
  obtain ⟨as, r1⟩ := Dp.reads I d x v hd rx
  obtain ⟨bs, r2⟩ := Dp.reads I (.tuple ds) y u he ry
  exact SeqAt.in_tuple_reads r2 r1 (SeqAt.canLay_of_shaped se) (SeqAt.canLay_of_shaped sd) (room_in_shaped sd hu) ⟨.bl _, H, I, rfl, q⟩
theorem op_notInT (hu : X.A.units + 65 < cLine) : OpR X (compareOp .NotIn) (rNotInT X.K) := by
  intro pins s σ H x y v u Q I rx ry h
  obtain ⟨d, ds, hd, he, sd, se, q⟩ := h
  obtain ⟨as, r1⟩ := Dp.reads I d x v hd rx
  obtain ⟨bs, r2⟩ := Dp.reads I (.tuple ds) y u he ry
  exact SeqAt.notIn_tuple_reads r2 r1 (SeqAt.canLay_of_shaped se) (SeqAt.canLay_of_shaped sd) (room_in_shaped sd hu) ⟨.bl _, H, I, rfl, q⟩
def cpOf : Cp → CmpOp
  | .eq => .Eq | .ne => .NotEq | .lt => .Lt | .le => .LtE | .gt => .Gt | .ge => .GtE | .isin => .In | .notin => .NotIn | .is_ => .Is | .isnot => .IsNot
def rCmp (K : PySem.W.Frag) (o : Cp) : R2 := fun x y H Q => ∃ W s a b d, RelSt K W s H ∧ Rep K W H a x ∧ Rep K W H b y ∧ cmpD o (fz 0 s a) (fz 0 s b) = some d ∧ ∀ v H', Got K true W H W s H' d v → Q v H'
theorem intsD_eq : ∀ {xs : List D} {ns : List Int}, intsD xs = some ns → xs = ns.map D.int
  | [], ns, h => by simp [intsD] at h; subst h; rfl
  | .int i :: r, ns, h => by
    simp only [intsD, Option.map_eq_some_iff] at h
    obtain ⟨ms, h1, h2⟩ := h
    subst h2
    rw [intsD_eq h1]
    rfl
  | .non :: _, _, h => by simp [intsD] at h
  | .bl _ :: _, _, h => by simp [intsD] at h
  | .str _ :: _, _, h => by simp [intsD] at h
  | .tup _ :: _, _, h => by simp [intsD] at h
  | .lst _ :: _, _, h => by simp [intsD] at h
  | .dct _ _ :: _, _, h => by simp [intsD] at h
  | .set _ :: _, _, h => by simp [intsD] at h
  | .loc _ :: _, _, h => by simp [intsD] at h
theorem blsD_eq : ∀ {xs : List D} {ns : List Bool}, blsD xs = some ns → xs = ns.map D.bl
  | [], ns, h => by simp [blsD] at h; subst h; rfl
  | .bl i :: r, ns, h => by
    simp only [blsD, Option.map_eq_some_iff] at h
    obtain ⟨ms, h1, h2⟩ := h
    subst h2
    rw [blsD_eq h1]
    rfl
  | .non :: _, _, h => by simp [blsD] at h
  | .int _ :: _, _, h => by simp [blsD] at h
  | .str _ :: _, _, h => by simp [blsD] at h
  | .tup _ :: _, _, h => by simp [blsD] at h
  | .lst _ :: _, _, h => by simp [blsD] at h
  | .dct _ _ :: _, _, h => by simp [blsD] at h
  | .set _ :: _, _, h => by simp [blsD] at h
  | .loc _ :: _, _, h => by simp [blsD] at h
theorem reps_ints {K : PySem.W.Frag} {W : Wd} {H : Hp} : ∀ {ns : List Int} {vs : List V}, Reps K W H (ns.map D.int) vs → vs = ns.map V.int
  | [], _, h => by simpa [Reps] using h
  | n :: ns, _, h => by
    simp only [List.map_cons, Reps] at h
    obtain ⟨v, r, e, h1, h2⟩ := h
    subst e
    simp only [Rep] at h1
    subst h1
    rw [reps_ints h2]
    rfl
theorem reps_bls {K : PySem.W.Frag} {W : Wd} {H : Hp} : ∀ {ns : List Bool} {vs : List V}, Reps K W H (ns.map D.bl) vs → vs = ns.map V.bl
  | [], _, h => by simpa [Reps] using h
  | n :: ns, _, h => by
    simp only [List.map_cons, Reps] at h
    obtain ⟨v, r, e, h1, h2⟩ := h
    subst e
    simp only [Rep] at h1
    subst h1
    rw [reps_bls h2]
    rfl
theorem lexLt_eq : ∀ xs ys : List Int, lexLt xs ys = HT.lexLt xs ys
  | [], [] => rfl
  | [], _ :: _ => rfl
  | _ :: _, [] => rfl
  | x :: xs, y :: ys => by rw [HT.lexLt_cons, ← lexLt_eq xs ys]; rfl
theorem op_cmp {k : Nat} (hr : Room k X.A) (o : Cp) : OpR X (compareOp (cpOf o)) (rCmp X.K o) := by
  intro pins s σ H x y v u Q I rx ry h
  obtain ⟨W, st, a, b, d, R, ha, hb, e, q⟩ := h
  have ha' := Rep.read R ha
  have hb' := Rep.read R hb
  have hu : X.A.units + 65 < cLine := by have := hr.un; omega
  have fin : ∀ k, d = .bl k → Q (.bl k) H := fun k ek => q _ _ (by subst ek; exact Got.val R rfl rfl)
  generalize fz 0 st a = a' at e ha'
  generalize fz 0 st b = b' at e hb'
  cases o with
  | eq =>
    simp only [cmpD, eqD, Option.map_eq_some_iff] at e
    obtain ⟨k, e, e2⟩ := e
    split at e
    · rename_i hp
      simp only [Bool.and_eq_true] at hp
      cases e
      refine op_eqD (by have := hr.un; omega) pins s σ H x y v u Q I rx ry ⟨_, _, rep_dp a' 60 hp.1 ha', rep_dp b' 60 hp.2 hb', shaped_toPy hp.1, shaped_toPy hp.2, ?_⟩
      rw [← eqv_toPy a' b' 60 60 hp.1 hp.2]
      exact fin _ e2.symm
    · cases e
  | ne =>
    simp only [cmpD, eqD, Option.map_eq_some_iff] at e
    obtain ⟨k, e, e2⟩ := e
    split at e
    · rename_i hp
      simp only [Bool.and_eq_true] at hp
      cases e
      refine op_neD (by have := hr.un; omega) pins s σ H x y v u Q I rx ry ⟨_, _, rep_dp a' 60 hp.1 ha', rep_dp b' 60 hp.2 hb', shaped_toPy hp.1, shaped_toPy hp.2, ?_⟩
      rw [← eqv_toPy a' b' 60 60 hp.1 hp.2]
      exact fin _ e2.symm
    · cases e
  | lt =>
    simp only [cmpD, Option.map_eq_some_iff] at e
    obtain ⟨k, e, e2⟩ := e
    unfold ltD at e
    split at e
    · cases e
      simp only [Rep] at ha' hb'
      exact op_lt pins s σ H x y v u Q I rx ry ⟨_, _, ha', hb', fin _ e2.symm⟩
    · cases e
      simp only [Rep] at ha' hb'
      exact op_lt_str pins s σ H x y v u Q I rx ry ⟨_, _, ha', hb', fin _ e2.symm⟩
    · split at e
      · rename_i xs ys ns ms h1 h2
        cases e
        rw [intsD_eq h1] at ha'
        rw [intsD_eq h2] at hb'
        simp only [Rep] at ha' hb'
        obtain ⟨p, vs, e3, t, r⟩ := ha'
        obtain ⟨p', vs', e3', t', r'⟩ := hb'
        rw [reps_ints r] at t
        rw [reps_ints r'] at t'
        exact op_ltT hr.units0 pins s σ H x y v u Q I rx ry ⟨p, p', ns, ms, e3, e3', t, t', by rw [← lexLt_eq]; exact fin _ e2.symm⟩
      · cases e
    · cases e
  | le =>
    simp only [cmpD] at e
    split at e
    · cases e
      simp only [Rep] at ha' hb'
      exact op_le pins s σ H x y v u Q I rx ry ⟨_, _, ha', hb', fin _ rfl⟩
    · cases e
  | gt =>
    simp only [cmpD] at e
    split at e
    · cases e
      simp only [Rep] at ha' hb'
      exact op_gt pins s σ H x y v u Q I rx ry ⟨_, _, ha', hb', fin _ rfl⟩
    · cases e
  | ge =>
    simp only [cmpD] at e
    split at e
    · cases e
      simp only [Rep] at ha' hb'
      exact op_ge pins s σ H x y v u Q I rx ry ⟨_, _, ha', hb', fin _ rfl⟩
    · cases e
  | isin =>
    simp only [cmpD, Option.map_eq_some_iff] at e
    obtain ⟨k, e, e2⟩ := e
    unfold inD at e
    split at e
    · rename_i xs
      split at e
      · rename_i hp
        simp only [Bool.and_eq_true] at hp
        cases e
        have pt : plain 61 (.tup xs) = true := by simp only [plain]; exact hp.2
        have q2 := plain_lay _ 61 pt
        refine op_inT hu pins s σ H x y v u Q I rx ry ⟨_, toPys xs, rep_dp a' 60 hp.1 ha', by simpa [toPy] using rep_dp _ 61 pt hb', shaped_toPy hp.1, ?_, ?_⟩
        · unfold SeqAt.shaped
          rw [show PyData.tuple (toPys xs) = toPy (.tup xs) from rfl, q2.1, decide_eq_true (by omega : (toPy (.tup xs)).depth ≤ 64)] <;> rfl
        · rw [← memD_toPy hp.1 xs hp.2]
          exact fin _ e2.symm
      · cases e
    · rename_i xs
      split at e
      · rename_i hp
        simp only [Bool.and_eq_true] at hp
        cases e
        have pt : plain 61 (.lst xs) = true := by simp only [plain]; exact hp.2
        have q2 := plain_lay _ 61 pt
        refine op_inD hu pins s σ H x y v u Q I rx ry ⟨_, toPys xs, rep_dp a' 60 hp.1 ha', by simpa [toPy] using rep_dp _ 61 pt hb', shaped_toPy hp.1, ?_, ?_⟩
        · unfold SeqAt.shaped
          rw [show PyData.list (toPys xs) = toPy (.lst xs) from rfl, q2.1, decide_eq_true (by omega : (toPy (.lst xs)).depth ≤ 64)] <;> rfl
        · rw [← memD_toPy hp.1 xs hp.2]
          exact fin _ e2.symm
      · cases e
    · cases e
  | notin =>
    simp only [cmpD, Option.map_eq_some_iff] at e
    obtain ⟨k, e, e2⟩ := e
    unfold inD at e
    split at e
    · rename_i xs
      split at e
      · rename_i hp
        simp only [Bool.and_eq_true] at hp
        cases e
        have pt : plain 61 (.tup xs) = true := by simp only [plain]; exact hp.2
        have q2 := plain_lay _ 61 pt
        refine op_notInT hu pins s σ H x y v u Q I rx ry ⟨_, toPys xs, rep_dp a' 60 hp.1 ha', by simpa [toPy] using rep_dp _ 61 pt hb', shaped_toPy hp.1, ?_, ?_⟩
        · unfold SeqAt.shaped
          rw [show PyData.tuple (toPys xs) = toPy (.tup xs) from rfl, q2.1, decide_eq_true (by omega : (toPy (.tup xs)).depth ≤ 64)] <;> rfl
        · rw [← memD_toPy hp.1 xs hp.2]
          exact fin _ e2.symm
      · cases e
    · rename_i xs
      split at e
      · rename_i hp
        simp only [Bool.and_eq_true] at hp
        cases e
        have pt : plain 61 (.lst xs) = true := by simp only [plain]; exact hp.2
        have q2 := plain_lay _ 61 pt
        refine op_notInD hu pins s σ H x y v u Q I rx ry ⟨_, toPys xs, rep_dp a' 60 hp.1 ha', by simpa [toPy] using rep_dp _ 61 pt hb', shaped_toPy hp.1, ?_, ?_⟩
        · unfold SeqAt.shaped
          rw [show PyData.list (toPys xs) = toPy (.lst xs) from rfl, q2.1, decide_eq_true (by omega : (toPy (.lst xs)).depth ≤ 64)] <;> rfl
        · rw [← memD_toPy hp.1 xs hp.2]
          exact fin _ e2.symm
      · cases e
    · cases e
  | is_ =>
    simp only [cmpD, Option.map_eq_some_iff] at e
    obtain ⟨k, e, e2⟩ := e
    have nn : ∀ k, b' = .non → decide (x = V.non) = k → d = .bl k → wpAny (model X.prog X.w) X.A (compareOp .Is v u) (EP X pins σ Q) X.xe s := fun k eb ek ed => by
      subst eb
      simp only [Rep] at hb'
      exact op_isN pins s σ H x y v u Q I rx ry ⟨hb', by rw [ek]; exact fin _ ed⟩
    unfold isD at e
    split at e
    all_goals first
      | (cases e; simp only [Rep] at ha'; exact nn _ rfl (decide_eq_true ha') e2.symm)
      | (cases e; simp only [Rep] at ha'; exact nn _ rfl (decide_eq_false (by rw [ha']; exact fun z => nomatch z)) e2.symm)
      | (cases e; simp only [Rep] at ha'; obtain ⟨p, vs, e3, _⟩ := ha'; exact nn _ rfl (decide_eq_false (by rw [e3]; exact fun z => nomatch z)) e2.symm)
      | (cases e; simp only [Rep] at ha'; obtain ⟨p, e3, _⟩ := ha'; exact nn _ rfl (decide_eq_false (by rw [e3]; exact fun z => nomatch z)) e2.symm)
      | (cases e; simp only [Rep] at ha' hb'; exact op_isBl pins s σ H x y v u Q I rx ry ⟨_, _, ha', hb', fin _ e2.symm⟩)
      | cases e
  | isnot =>
    simp only [cmpD, Option.map_eq_some_iff] at e
    obtain ⟨k, e, e2⟩ := e
    have nn : ∀ k, b' = .non → decide (x = V.non) = k → d = .bl (!k) → wpAny (model X.prog X.w) X.A (compareOp .IsNot v u) (EP X pins σ Q) X.xe s := fun k eb ek ed => by
      subst eb
      simp only [Rep] at hb'
      exact op_notN pins s σ H x y v u Q I rx ry ⟨hb', by rw [ek]; exact fin _ ed⟩
    unfold isD at e
    split at e
    all_goals first
      | (cases e; simp only [Rep] at ha'; exact nn _ rfl (decide_eq_true ha') e2.symm)
      | (cases e; simp only [Rep] at ha'; exact nn _ rfl (decide_eq_false (by rw [ha']; exact fun z => nomatch z)) e2.symm)
      | (cases e; simp only [Rep] at ha'; obtain ⟨p, vs, e3, _⟩ := ha'; exact nn _ rfl (decide_eq_false (by rw [e3]; exact fun z => nomatch z)) e2.symm)
      | (cases e; simp only [Rep] at ha'; obtain ⟨p, e3, _⟩ := ha'; exact nn _ rfl (decide_eq_false (by rw [e3]; exact fun z => nomatch z)) e2.symm)
      | (cases e; simp only [Rep] at ha' hb'; exact op_notBl pins s σ H x y v u Q I rx ry ⟨_, _, ha', hb', fin _ e2.symm⟩)
      | cases e
end
end Pv
end
section
set_option maxRecDepth 100000
set_option maxHeartbeats 4000000
namespace Pv
open PySem PySem.Spec PyProof.Rows L2
section
variable {prog : Program} {w : World} {A : Around} {E : Value → Shared → Prop} {s : Shared} {l : Addr} {its : List Value} {ns : List Int} {Q : Value → Shared → Prop} {xs : Array (Int × Tok)}
theorem iter_intTup (hl : s.heap.IsTuple l (intItems xs))
    (h : ∀ s₂ : Shared, s₂ = { s with heap := s.heap.push { cls := .type "tuple_iterator", data := .fields #[.ref l, .int 0 0] } } →
      (s₂.heap.IsTupleIter s.heap.objs.size l 0 ∧ s₂.heap.IsTuple l (intItems xs)) → (∀ b ∈ [s.heap.objs.size, l], b < s₂.heap.objs.size) → l ≠ s.heap.objs.size → Q (.ref s.heap.objs.size) s₂) :
    wpAny (model prog w) A (pyIter (.ref l)) Q E s := by
  have hlt : l < s.heap.objs.size := by obtain ⟨_, e, _⟩ := hl; exact Heap.lt_size e
  refine wpAny_pyIter_tuple hl (h _ rfl ⟨⟨_, Heap.get?_push_size _ rfl, rfl, rfl⟩, ?_⟩ (fun b hb => ?_) (Nat.ne_of_lt hlt))
  · obtain ⟨o, e, r⟩ := hl
    exact ⟨o, Heap.get?_push_of_some _ e, r⟩
  show b < (s.heap.push _).objs.size
  rw [Heap.size_push]
  rcases List.mem_cons.mp hb with rfl | hb
  · exact Nat.lt_succ_self _
  · rcases List.mem_cons.mp hb with rfl | hb
    · exact Nat.lt_succ_of_lt hlt
    · cases hb
theorem old_keptT {h' : Heap} (hk : ∀ b o, b ∉ [s.heap.objs.size] → (s.heap.push { cls := .type "tuple_iterator", data := .fields #[.ref l, .int 0 0] }).get? b = some o → h'.get? b = some o) :
    ∀ b o, s.heap.get? b = some o → h'.get? b = some o := fun b o e => by
  refine hk b o (fun hm => ?_) (Heap.get?_push_of_some _ e)
  rcases List.mem_cons.mp hm with e1 | hm
  · exact absurd (e1 ▸ Heap.lt_size e) (Nat.lt_irrefl _)
  · cases hm
theorem max_intTup (hh : A.handled = none) (hl : s.heap.IsTuple l (intItems xs)) (hne : 0 < xs.size)
    (h : ∀ v h' tk, (intItems xs)[argBest (fun i j => decide (numAt xs i > numAt xs j)) (xs.size - 1)]? = some v → (∀ b o, s.heap.get? b = some o → h'.get? b = some o) → Q v { s with heap := h', toks := tk }) :
    wpAny (model prog w) A (call (.builtin "max") [.ref l]) Q E s := by
  refine call_max_walk (iter_intTup hl fun s₂ e st hfp hlI => ?_)
  subst e
  refine ⟨_, _, _, _, _, _, _, rfl, Walks.tuple (A := A.in1) hh _ l hlI (intItems xs), st, hfp, by simpa [intItems] using hne, CmpOf.ints_gt (numAt xs) (fun _ _ => intItems_at), fun v h' tk hP hk => ?_⟩
  exact h v h' tk (by simpa [intItems] using hP) (old_keptT hk)
theorem min_intTup (hh : A.handled = none) (hl : s.heap.IsTuple l (intItems xs)) (hne : 0 < xs.size)
    (h : ∀ v h' tk, (intItems xs)[argBest (fun i j => decide (numAt xs i < numAt xs j)) (xs.size - 1)]? = some v → (∀ b o, s.heap.get? b = some o → h'.get? b = some o) → Q v { s with heap := h', toks := tk }) :
    wpAny (model prog w) A (call (.builtin "min") [.ref l]) Q E s := by
  refine call_min_walk (iter_intTup hl fun s₂ e st hfp hlI => ?_)
  subst e
  refine ⟨_, _, _, _, _, _, _, rfl, Walks.tuple (A := A.in1) hh _ l hlI (intItems xs), st, hfp, by simpa [intItems] using hne, CmpOf.ints_lt (numAt xs) (fun _ _ => intItems_at), fun v h' tk hP hk => ?_⟩
  exact h v h' tk (by simpa [intItems] using hP) (old_keptT hk)
theorem sum_intTup (hh : A.handled = none) (hl : s.heap.IsTuple l (intItems xs))
    (h : ∀ h' tk t', (∀ b o, s.heap.get? b = some o → h'.get? b = some o) → Q (.int (preSum (numAt xs) xs.size) t') { s with heap := h', toks := tk }) :
    wpAny (model prog w) A (call (.builtin "sum") [.ref l]) Q E s := by
  refine call_sum_walkG (iter_intTup hl fun s₂ e st hfp hlI => ?_)
  subst e
  refine ⟨_, _, _, _, _, _, numAt xs, rfl, Walks.tuple (A := A.in1) hh _ l hlI (intItems xs), st, hfp, (fun _ _ => intItems_at), fun h' tk t' hk => ?_⟩
  have := h h' tk t' (old_keptT hk)
  simpa [intItems] using this
theorem sum_rawT (hh : A.handled = none) (hl : s.heap.IsTuple l its.toArray) (hi : IntsAre its ns)
    (h : ∀ h' tk t', (∀ b o, s.heap.get? b = some o → h'.get? b = some o) → Q (.int ns.sum t') { s with heap := h', toks := tk }) : wpAny (model prog w) A (call (.builtin "sum") [.ref l]) Q E s := by
  obtain ⟨xs, e⟩ := hi.allInts.items
  have hn : numsOf (intItems xs).toList = ns := by rw [← e]; exact hi.numsOf
  rw [nums_intItems] at hn
  rw [e] at hl
  refine sum_intTup hh hl fun h' tk t' hk => ?_
  have := h h' tk t' hk
  rw [preSum_eq, List.take_of_length_le (by simp), hn]; exact this
theorem max_rawT (hh : A.handled = none) (hl : s.heap.IsTuple l its.toArray) (hi : IntsAre its ns) (hne : 0 < ns.length)
    (h : ∀ h' tk M t', (∀ b o, s.heap.get? b = some o → h'.get? b = some o) → M ∈ ns → (∀ a, a ∈ ns → a ≤ M) → Q (.int M t') { s with heap := h', toks := tk }) : wpAny (model prog w) A (call (.builtin "max") [.ref l]) Q E s := by
  obtain ⟨xs, e⟩ := hi.allInts.items
  have hn : numsOf (intItems xs).toList = ns := by rw [← e]; exact hi.numsOf
  rw [nums_intItems] at hn
  subst hn
  rw [e] at hl
  have hsz : 0 < xs.size := by simpa using hne
  refine max_intTup hh hl hsz fun v h' tk hv hk => ?_
  obtain ⟨t, rfl⟩ := intItems_at hv
  obtain ⟨h1, h2⟩ := argBest_gt (numAt xs) (xs.size - 1)
  refine h h' tk _ t hk ?_ fun a ha => ?_
  · rw [numAt_eq]; exact PySem.getD_mem (by rw [List.length_map, Array.length_toList]; omega)
  · obtain ⟨j, hj, rfl⟩ := mem_getD ha
    rw [List.length_map, Array.length_toList] at hj
    rw [← numAt_eq]; exact h2 j (by omega)
theorem min_rawT (hh : A.handled = none) (hl : s.heap.IsTuple l its.toArray) (hi : IntsAre its ns) (hne : 0 < ns.length)
    (h : ∀ h' tk M t', (∀ b o, s.heap.get? b = some o → h'.get? b = some o) → M ∈ ns → (∀ a, a ∈ ns → M ≤ a) → Q (.int M t') { s with heap := h', toks := tk }) : wpAny (model prog w) A (call (.builtin "min") [.ref l]) Q E s := by
  obtain ⟨xs, e⟩ := hi.allInts.items
  have hn : numsOf (intItems xs).toList = ns := by rw [← e]; exact hi.numsOf
  rw [nums_intItems] at hn
  subst hn
  rw [e] at hl
  have hsz : 0 < xs.size := by simpa using hne
  refine min_intTup hh hl hsz fun v h' tk hv hk => ?_
  obtain ⟨t, rfl⟩ := intItems_at hv
  obtain ⟨h1, h2⟩ := argBest_lt (numAt xs) (xs.size - 1)
  refine h h' tk _ t hk ?_ fun a ha => ?_
  · rw [numAt_eq]; exact PySem.getD_mem (by rw [List.length_map, Array.length_toList]; omega)
  · obtain ⟨j, hj, rfl⟩ := mem_getD ha
    rw [List.length_map, Array.length_toList] at hj
    rw [← numAt_eq]; exact h2 j (by omega)
end
/-! ### least and greatest -/
theorem minZ_le : ∀ (r : List Int) (m : Int), minZ m r ≤ m ∧ ∀ x ∈ r, minZ m r ≤ x
  | [], m => ⟨Int.le_refl _, by simp⟩
  | x :: r, m => by
    have ih := minZ_le r (if x < m then x else m)
    unfold minZ
    refine ⟨?_, fun y hy => ?_⟩
    · have := ih.1
      split at this <;> omega
    · rcases List.mem_cons.mp hy with e | hy
      · subst e
        have := ih.1
        split at this <;> omega
      · exact ih.2 y hy
theorem minZ_mem : ∀ (r : List Int) (m : Int), minZ m r ∈ m :: r
  | [], m => by simp [minZ]
  | x :: r, m => by
    have ih := minZ_mem r (if x < m then x else m)
    unfold minZ
    split at ih
    · rename_i h
      rw [if_pos h]
      exact List.mem_cons_of_mem _ ih
    · rename_i h
      rw [if_neg h]
      rcases List.mem_cons.mp ih with e | e
      · rw [e]; exact List.mem_cons_self
      · exact List.mem_cons_of_mem _ (List.mem_cons_of_mem _ e)
theorem minZ_eq {m : Int} {r : List Int} {k : Int} (h1 : k ∈ m :: r) (h2 : ∀ y, y ∈ m :: r → k ≤ y) : k = minZ m r := by
  have a := h2 _ (minZ_mem r m)
  have b := minZ_le r m
  have c : minZ m r ≤ k := by
    rcases List.mem_cons.mp h1 with e | e
    · rw [e]; exact b.1
    · exact b.2 k e
  omega
theorem maxZ_le : ∀ (r : List Int) (m : Int), m ≤ maxZ m r ∧ ∀ x ∈ r, x ≤ maxZ m r
  | [], m => ⟨Int.le_refl _, by simp⟩
  | x :: r, m => by
    have ih := maxZ_le r (if x > m then x else m)
    unfold maxZ
    refine ⟨?_, fun y hy => ?_⟩
    · have := ih.1
      split at this <;> omega
    · rcases List.mem_cons.mp hy with e | hy
      · subst e
        have := ih.1
        split at this <;> omega
      · exact ih.2 y hy
theorem maxZ_mem : ∀ (r : List Int) (m : Int), maxZ m r ∈ m :: r
  | [], m => by simp [maxZ]
  | x :: r, m => by
    have ih := maxZ_mem r (if x > m then x else m)
    unfold maxZ
    split at ih
    · rename_i h
      rw [if_pos h]
      exact List.mem_cons_of_mem _ ih
    · rename_i h
      rw [if_neg h]
      rcases List.mem_cons.mp ih with e | e
      · rw [e]; exact List.mem_cons_self
      · exact List.mem_cons_of_mem _ (List.mem_cons_of_mem _ e)
theorem maxZ_eq {m : Int} {r : List Int} {k : Int} (h1 : k ∈ m :: r) (h2 : ∀ y, y ∈ m :: r → y ≤ k) : k = maxZ m r := by
  have a := h2 _ (maxZ_mem r m)
  have b := maxZ_le r m
  have c : k ≤ maxZ m r := by
    rcases List.mem_cons.mp h1 with e | e
    · rw [e]; exact b.1
    · exact b.2 k e
  omega
/-! ### built-in functions -/
def biName : BI → Str
  | .len => "len" | .abs => "abs" | .int => "int" | .sum => "sum" | .min => "min" | .max => "max" | .all => "all" | .any => "any" | .tuple => "tuple" | .list => "list" | .sorted => "sorted" | .gcd => "gcd" | .comb => "comb"
def biVal : BI → Value
  | .len => .builtin "len" | .abs => .builtin "abs" | .int => .type "int" | .sum => .builtin "sum" | .min => .builtin "min" | .max => .builtin "max" | .all => .builtin "all" | .any => .builtin "any"
  | .tuple => .type "tuple" | .list => .type "list" | .sorted => .builtin "sorted" | .gcd => .builtin "math.gcd" | .comb => .builtin "math.comb"
/-- the cells read -/
def RdV (K : PySem.W.Frag) (W : Wd) (H : Hp) (d : D) (v : V) : Prop :=
  match d with
  | .lst ds => ∃ p vs, v = .ref p ∧ SqL K H p vs ∧ Reps K W H ds vs
  | d => Rep K W H d v
section
variable {K : PySem.W.Frag} {W : Wd} {H : Hp} {s : Sto}
theorem rdv {d : D} {v : V} (R : RelSt K W s H) (r : Rep K W H d v) : RdV K W H (rd s d) v := by
  rcases rd_cases R r with q | ⟨ds, p, vs, q, q2, q3, q4⟩
  · rw [q]
    cases d with
    | lst ds =>
      simp only [Rep] at r
      obtain ⟨a, vs, e1, e2, e3⟩ := r
      exact ⟨a, vs, e1, e2.sq, e3⟩
    | _ => exact r
  · rw [q]
    exact ⟨p, vs, q2, q3, q4⟩
theorem reps_rdv (R : RelSt K W s H) : ∀ {ds : List D} {vs : List V}, Reps K W H ds vs → Paired (RdV K W H) (ds.map (rd s)) vs
  | [], _, h => by simp only [Reps] at h; subst h; exact .nil
  | d :: ds, _, h => by
    simp only [Reps] at h
    obtain ⟨v, r, e, h1, h2⟩ := h
    subst e
    exact .cons (rdv R h1) (reps_rdv R h2)
/-- a list or a tuple read -/
theorem seqD_get {d : D} {v : V} {xs : List D} (h : RdV K W H d v) (e : seqD d = some xs) : ∃ p vs, v = .ref p ∧ (SqL K H p vs ∨ SqT K H p vs) ∧ Reps K W H xs vs := by
  cases d with
  | tup ds =>
    cases e
    have h : Rep K W H (.tup _) v := h
    simp only [Rep] at h
    obtain ⟨a, vs, e1, e2, e3⟩ := h
    exact ⟨a, vs, e1, .inr e2, e3⟩
  | lst ds =>
    cases e
    obtain ⟨p, vs, e1, e2, e3⟩ := h
    exact ⟨p, vs, e1, .inl e2, e3⟩
  | _ => cases e
end
def rBi (K : PySem.W.Frag) (b : BI) : List V → Hp → VK → Prop := fun vs H Q => ∃ W s xs d, RelSt K W s H ∧ Paired (RdV K W H) xs vs ∧ biD b xs = some d ∧ ∀ v H', Got K (match b with | .list => true | _ => false) W H W s H' d v → Q v H'
section
variable {X : Cx}
theorem paired1 {α β : Type} {F : α → β → Prop} {a : α} {vs : List β} (h : Paired F [a] vs) : ∃ v, vs = [v] ∧ F a v := by
  cases h with
  | cons r t => cases t; exact ⟨_, rfl, r⟩
theorem paired2 {α β : Type} {F : α → β → Prop} {a b : α} {vs : List β} (h : Paired F [a, b] vs) : ∃ v u, vs = [v, u] ∧ F a v ∧ F b u := by
  cases h with
  | cons r t => cases t with
    | cons r2 t2 => cases t2; exact ⟨_, _, rfl, r, r2⟩
theorem call_bi (hc : X.calm = true) (b : BI) : CallR X (biVal b) (rBi X.K b) := by
  intro pins s σ H vs us Q I r h
  obtain ⟨W, st, xs, d, R, P, e, q⟩ := h
  have bg := big_eq
  have fin : ∀ (v : V), Rep X.K W H d v → d.isLst = false → Q v H := fun v rv hl => q v H (Got.val R rv hl)
  have hh := I.ok.hd hc
  unfold biD at e
  split at e
  · obtain ⟨v, rfl, h1⟩ := paired1 P
    cases e
    have h1 : Rep X.K W H (.tup _) v := h1
    simp only [Rep] at h1
    obtain ⟨a, ws, e1, e2, e3⟩ := h1
    exact call_len_seq pins s σ H _ us Q I r ⟨a, ws, by rw [e1], .inr e2, fin _ (by simp only [Rep]; rw [e3.length]) rfl⟩
  · obtain ⟨v, rfl, h1⟩ := paired1 P
    cases e
    obtain ⟨a, ws, e1, e2, e3⟩ := h1
    exact call_len_seq pins s σ H _ us Q I r ⟨a, ws, by rw [e1], .inl e2, fin _ (by simp only [Rep]; rw [e3.length]) rfl⟩
  · obtain ⟨v, rfl, h1⟩ := paired1 P
    split at e
    · rename_i hz
      cases e
      have h1 : v = .str _ := h1
      exact call_len_str pins s σ H _ us Q I r ⟨_, by rw [h1], by rw [← bg]; exact hz, fin _ rfl rfl⟩
    · cases e
  · obtain ⟨v, rfl, h1⟩ := paired1 P
    cases e
    have h1 : v = .int _ := h1
    exact call_abs pins s σ H _ us Q I r ⟨_, by rw [h1], fin _ rfl rfl⟩
  · obtain ⟨v, rfl, h1⟩ := paired1 P
    cases e
    have h1 : v = .int _ := h1
    exact call_int1 pins s σ H _ us Q I r (.inl ⟨_, by rw [h1], fin _ rfl rfl⟩)
  · obtain ⟨v, rfl, h1⟩ := paired1 P
    cases e
    have h1 : v = .bl _ := h1
    exact call_int1 pins s σ H _ us Q I r (.inr ⟨_, by rw [h1], fin _ rfl rfl⟩)
  · obtain ⟨v, rfl, h1⟩ := paired1 P
    split at e
    · rename_i ys hs
      simp only [Option.map_eq_some_iff] at e
      obtain ⟨ns, e1, e2⟩ := e
      subst e2
      obtain ⟨p, ws, rfl, sq, rp⟩ := seqD_get h1 hs
      rw [intsD_eq e1] at rp
      rw [reps_ints rp] at sq
      rcases sq with sq | sq
      · exact cr_sum hc pins s σ H _ us Q I r ⟨p, ns, rfl, sq, fin _ rfl rfl⟩
      · obtain ⟨its, rv, ht, _⟩ := I.tuple sq
        rw [Vals.ref1 r]
        exact sum_rawT hh ht rv.ints fun h' tk t' hk => ⟨.int _, H, I.kept hk, ⟨_, rfl⟩, fin _ rfl rfl⟩
    · cases e
  · obtain ⟨v, u, rfl, h1, h2⟩ := paired2 P
    cases e
    have h1 : v = .int _ := h1
    have h2 : u = .int _ := h2
    exact call_min2 hc pins s σ H _ us Q I r ⟨_, _, by rw [h1, h2], fin _ rfl rfl⟩
  · obtain ⟨v, u, rfl, h1, h2⟩ := paired2 P
    cases e
    have h1 : v = .int _ := h1
    have h2 : u = .int _ := h2
    exact call_max2 hc pins s σ H _ us Q I r ⟨_, _, by rw [h1, h2], fin _ rfl rfl⟩
  · obtain ⟨v, rfl, h1⟩ := paired1 P
    split at e
    · rename_i ys hs
      split at e
      · rename_i m t e1
        cases e
        obtain ⟨p, ws, rfl, sq, rp⟩ := seqD_get h1 hs
        rw [intsD_eq e1] at rp
        rw [reps_ints rp] at sq
        rcases sq with sq | sq
        · exact cr_min hc pins s σ H _ us Q I r ⟨p, m :: t, rfl, sq, by simp, fun k h1 h2 => fin _ (by simp only [Rep]; rw [minZ_eq h1 h2]) rfl⟩
        · obtain ⟨its, rv, ht, _⟩ := I.tuple sq
          rw [Vals.ref1 r]
          exact min_rawT (ns := m :: t) hh ht rv.ints (by simp) fun h' tk k t' hk h1 h2 => ⟨.int _, H, I.kept hk, ⟨_, rfl⟩, fin _ (by simp only [Rep]; rw [minZ_eq h1 h2]) rfl⟩
      · cases e
    · cases e
  · obtain ⟨v, rfl, h1⟩ := paired1 P
    split at e
    · rename_i ys hs
      split at e
      · rename_i m t e1
        cases e
        obtain ⟨p, ws, rfl, sq, rp⟩ := seqD_get h1 hs
        rw [intsD_eq e1] at rp
        rw [reps_ints rp] at sq
        rcases sq with sq | sq
        · exact cr_max hc pins s σ H _ us Q I r ⟨p, m :: t, rfl, sq, by simp, fun k h1 h2 => fin _ (by simp only [Rep]; rw [maxZ_eq h1 h2]) rfl⟩
        · obtain ⟨its, rv, ht, _⟩ := I.tuple sq
          rw [Vals.ref1 r]
          exact max_rawT (ns := m :: t) hh ht rv.ints (by simp) fun h' tk k t' hk h1 h2 => ⟨.int _, H, I.kept hk, ⟨_, rfl⟩, fin _ (by simp only [Rep]; rw [maxZ_eq h1 h2]) rfl⟩
      · cases e
    · cases e
  · obtain ⟨v, rfl, h1⟩ := paired1 P
    simp only [Option.map_eq_some_iff] at e
    obtain ⟨ns, e1, e2⟩ := e
    subst e2
    obtain ⟨p, ws, rfl, sq, rp⟩ := h1
    rw [blsD_eq e1] at rp
    rw [reps_bls rp] at sq
    exact cr_all hc pins s σ H _ us Q I r ⟨p, ns, rfl, sq, fin _ rfl rfl⟩
  · obtain ⟨v, rfl, h1⟩ := paired1 P
    simp only [Option.map_eq_some_iff] at e
    obtain ⟨ns, e1, e2⟩ := e
    subst e2
    obtain ⟨p, ws, rfl, sq, rp⟩ := h1
    rw [blsD_eq e1] at rp
    rw [reps_bls rp] at sq
    exact cr_any hc pins s σ H _ us Q I r ⟨p, ns, rfl, sq, fin _ rfl rfl⟩
  · obtain ⟨v, rfl, h1⟩ := paired1 P
    simp only [Option.map_eq_some_iff] at e
    obtain ⟨ys, e1, e2⟩ := e
    subst e2
    obtain ⟨p, ws, rfl, sq, rp⟩ := seqD_get h1 e1
    refine call_tuple_of pins s σ H _ us Q I r ⟨p, ws, rfl, ?_⟩
    rcases sq with sq | sq
    · exact .inl ⟨sq, fun l hl => q _ _ (Got.tupNew R rp hl)⟩
    · exact .inr ⟨sq, fin _ ⟨p, ws, rfl, sq, rp⟩ rfl⟩
  · obtain ⟨v, rfl, h1⟩ := paired1 P
    simp only [Option.map_eq_some_iff] at e
    obtain ⟨ys, e1, e2⟩ := e
    subst e2
    obtain ⟨p, ws, rfl, sq, rp⟩ := seqD_get h1 e1
    exact call_list_of pins s σ H _ us Q I r ⟨p, ws, rfl, sq, fun l hl => q _ _ (Got.lstNew R rp hl)⟩
  · obtain ⟨v, u, rfl, h1, h2⟩ := paired2 P
    cases e
    have h1 : v = .int _ := h1
    have h2 : u = .int _ := h2
    exact cr_gcd pins s σ H _ us Q I r ⟨_, _, by rw [h1, h2], fin _ rfl rfl⟩
  · cases e
end
end Pv
end
section
set_option maxRecDepth 100000
set_option maxHeartbeats 4000000
namespace Pv
open PySem PySem.Spec PyProof.Rows L2
section
variable {K : PySem.W.Frag} {W : Wd} {H : Hp} {s : Sto}
theorem atD_get {ds : List D} {vs : List V} {i : Int} {d : D} (r : Reps K W H ds vs) (h : atD ds i = some d) : ∃ v, atI vs i = some v ∧ Rep K W H d v := by
  have hl := r.length
  unfold atD at h
  unfold atI ixN
  split at h
  · rename_i h0
    rw [if_pos h0]
    obtain ⟨v, e, q⟩ := r.get h
    have := (List.getElem?_eq_some_iff.mp e).1
    rw [if_pos (by omega)]
    exact ⟨v, e, q⟩
  · rename_i h0
    rw [if_neg h0]
    split at h
    · rename_i h1
      obtain ⟨v, e, q⟩ := r.get h
      rw [if_pos (by omega), ← hl]
      exact ⟨v, e, q⟩
    · cases h
end
def rIdx (K : PySem.W.Frag) : R2 := fun x y H Q => ∃ W s a b d, RelSt K W s H ∧ Rep K W H a x ∧ Rep K W H b y ∧ idxD (rd s a) b = some d ∧ ∀ v H', Got K false W H W s H' d v → Q v H'
def rSlc (K : PySem.W.Frag) : V → Option Int → Option Int → Hp → VK → Prop := fun x lo hi H Q => ∃ W s a d, RelSt K W s H ∧ Rep K W H a x ∧ slcD (rd s a) lo hi = some d ∧ ∀ v H', Got K true W H W s H' d v → Q v H'
section
variable {X : Cx}
theorem ix_idx : IxR X (rIdx X.K) := by
  intro value slice pins s σ H x y v u Q I rx ry h hs
  obtain ⟨W, st, a, b, d, R, ha, hb, e, q⟩ := h
  have bg := big_eq
  unfold idxD at e
  split at e
  · rename_i xs i h1
    obtain ⟨p, vs, e1, t, r⟩ := rd_tup R ha h1
    obtain ⟨z, ez, rz⟩ := atD_get r e
    have hb : y = .int i := hb
    exact ix_seq value slice pins s σ H x y v u Q I rx ry (.inr (.inl ⟨p, vs, i, z, e1, hb, t, ez, q _ _ (Got.old R rz)⟩)) hs
  · rename_i xs i h1
    obtain ⟨p, vs, e1, t, r⟩ := rd_lst R ha h1
    obtain ⟨z, ez, rz⟩ := atD_get r e
    have hb : y = .int i := hb
    exact ix_seq value slice pins s σ H x y v u Q I rx ry (.inl ⟨p, vs, i, z, e1, hb, t, ez, q _ _ (Got.old R rz)⟩) hs
  · rename_i z i h1
    split at e
    · rename_i hz
      simp only [Option.map_eq_some_iff] at e
      obtain ⟨c, e1, e2⟩ := e
      subst e2
      have hb : y = .int i := hb
      refine ix_seq value slice pins s σ H x y v u Q I rx ry (.inr (.inr ⟨z, i, c, rd_str R ha h1, hb, by rw [← bg]; exact hz.2, ?_, q _ _ (Got.old R rfl)⟩)) hs
      unfold atI ixN
      have := (List.getElem?_eq_some_iff.mp e1).1
      rw [if_pos hz.1, if_pos (by omega)]
      exact e1
    · cases e
  · cases e
theorem cutAt_eq (n d : Nat) (o : Option Int) : cutAt n d o = HT.sIx n d o := by cases o <;> rfl
theorem Reps.cutV {K : PySem.W.Frag} {W : Wd} {H : Hp} {ds : List D} {vs : List V} (r : Reps K W H ds vs) (lo hi : Option Int) : Reps K W H (cutD ds lo hi) (L2.cutV vs lo hi) := by
  unfold cutD L2.cutV
  rw [cutAt_eq, cutAt_eq, r.length]
  exact (r.drop _).take _
theorem sl_slc : SlR X (rSlc X.K) := by
  intro pins s σ H x v vl vu lo hi sl Q I rx hs pl pu h
  obtain ⟨W, st, a, d, R, ha, e, q⟩ := h
  unfold slcD at e
  split at e
  · rename_i xs h1
    cases e
    obtain ⟨p, vs, e1, t, r⟩ := rd_tup R ha h1
    refine sl_tupA pins s σ H x v vl vu lo hi sl Q I rx hs pl pu ⟨p, vs, e1, t, fun w => ?_, fun _ p3 n3 => q _ _ (Got.tupNew R (r.cutV lo hi) n3)⟩
    refine q _ _ (Got.val R ?_ rfl)
    have ec : cutD xs lo hi = xs := by
      unfold cutD
      rw [cutAt_eq, cutAt_eq, r.length, w.1, w.2, List.drop_zero, Nat.sub_zero]
      exact List.take_of_length_le (by rw [r.length]; exact Nat.le_refl _)
    rw [ec]
    exact ⟨p, vs, rfl, t, r⟩
  · rename_i xs h1
    cases e
    obtain ⟨p, vs, e1, t, r⟩ := rd_lst R ha h1
    exact sl_list pins s σ H x v vl vu lo hi sl Q I rx hs pl pu ⟨p, vs, e1, t, fun p3 n3 => q _ _ (Got.lstNew R (r.cutV lo hi) n3)⟩
  · cases e
end
/-! ### t[::-1] -/
section
variable {prog : Program} {w : World} {A : Around} {E : Value → Shared → Prop} {s : Shared}
theorem sliceApplied_rev {sl : Addr} {tk : Tok} {n : Nat} {Q : Int × Int × Nat → Shared → Prop} (hs : s.heap.IsSliceOf sl .none .none (.int (-1) tk))
    (h : Q ((n : Int) - 1, -1, n) s) : wpAny (model prog w) A (Builtin.Slice.sliceApplied (.ref sl) (pure (n : Int))) Q E s := by
  obtain ⟨os, hos, hcs, hds⟩ := id hs
  unfold Builtin.Slice.sliceApplied Builtin.Slice.sliceFields
  refine wpAny_bind (wpAny_bind (wpAny_field hos hds (x := .none) rfl (wpAny_bind (wpAny_field hos hds (x := .none) rfl (wpAny_bind (wpAny_field hos hds (x := .int (-1) tk) rfl (wpAny_pure ?_)))))))
  refine wpAny_bind (HT.slicePart_ (.int (-1) tk) ?_)
  show wpAny _ _ (if ((-1 : Int) == 0) = true then _ else _) _ _ s
  rw [if_neg (by decide)]
  refine wpAny_bind (HT.slicePart_ .none (wpAny_bind (HT.slicePart_ .none (wpAny_bind (wpAny_pure ?_)))))
  show wpAny _ _ (match Builtin.Slice.sliceAdjust none none (-1) (n : Int) with | (lo, hi) => pure (lo, (-1 : Int), Builtin.Slice.slicePlaces lo hi (-1))) _ _ s
  have e : Builtin.Slice.sliceAdjust none none (-1) (n : Int) = ((n : Int) - 1, -1) := by
    unfold Builtin.Slice.sliceAdjust
    simp
  rw [e]
  have e2 : Builtin.Slice.slicePlaces ((n : Int) - 1) (-1) (-1) = n := by
    unfold Builtin.Slice.slicePlaces
    rw [if_neg (by decide)]
    by_cases hn : (n : Int) - 1 > -1
    · rw [if_pos hn]
      have : ((n : Int) - 1 - -1 - 1) / (- -1) + 1 = n := by
        rw [show (- -1 : Int) = 1 by decide, Int.ediv_one]
        omega
      rw [this]
      omega
    · rw [if_neg hn]
      omega
  show wpAny _ _ (pure ((n : Int) - 1, (-1 : Int), Builtin.Slice.slicePlaces ((n : Int) - 1) (-1) (-1))) _ _ s
  rw [e2]
  exact wpAny_pure h
theorem filterMap_cong {α β : Type} {f g : α → Option β} : ∀ {l : List α}, (∀ a ∈ l, f a = g a) → l.filterMap f = l.filterMap g
  | [], _ => rfl
  | x :: r, h => by
    rw [List.filterMap_cons, List.filterMap_cons, h x List.mem_cons_self, filterMap_cong fun a ha => h a (List.mem_cons_of_mem _ ha)]
theorem pick_rev (xs : Array Value) : ((List.range xs.size).filterMap fun (m : Nat) => xs[((xs.size : Int) - 1 + (m : Int) * (-1)).toNat]?) = xs.toList.reverse := by
  have e : ((List.range xs.size).filterMap fun (m : Nat) => xs[((xs.size : Int) - 1 + (m : Int) * (-1)).toNat]?) = (List.range xs.size).filterMap fun m => xs.toList.reverse[m]? := by
    refine filterMap_cong fun m hm => ?_
    have hm := List.mem_range.mp hm
    rw [List.getElem?_reverse (by simpa using hm)]
    have : ((xs.size : Int) - 1 + (m : Int) * (-1)).toNat = xs.toList.length - 1 - m := by
      rw [Array.length_toList]
      omega
    rw [this]
    simp
  rw [e]
  have : ∀ l : List Value, ((List.range l.length).filterMap fun m => l[m]?) = l := by
    intro l
    induction l with
    | nil => rfl
    | cons x r ih =>
      rw [List.length_cons, List.range_succ_eq_map, List.filterMap_cons]
      simp only [List.getElem?_cons_zero, List.filterMap_map]
      congr 1
  have h2 := this xs.toList.reverse
  rw [List.length_reverse, Array.length_toList] at h2
  exact h2
theorem getItem_tuple_rev {t sl : Addr} {items : Array Value} {tk : Tok} {Q : Value → Shared → Prop} (ht : IsTup s.heap t items) (hs : s.heap.IsSliceOf sl .none .none (.int (-1) tk))
    (h : Q (.ref s.heap.objs.size) { s with heap := s.heap.push { cls := .type "tuple", data := .seq items.toList.reverse.toArray } })
    (hsz : items.size ≤ sizeLine) : wpAny (model prog w) A (getItem (.ref t) (.ref sl)) Q E s := by
  have htake : sizeOk (.seq items.toList.reverse.toArray) := by
    show items.toList.reverse.toArray.size ≤ sizeLine
    rw [List.size_toArray, List.length_reverse, Array.length_toList]
    omega
  obtain ⟨os, hos, hcs, hds⟩ := id hs
  have hTs : s.TypeIs (.ref sl) "slice" := ⟨os, hos, hcs⟩
  unfold getItem
  try with_reducible refine wpAny_holding ?_
  first | refine wpAny_bind (wpAny_pure ?_) | skip
  refine wpAny_bind (wpAny_sequenceKey ht.typeIs (by decide) ?_)
  refine wpAny_bind (wpAny_callSpecial?_slot (name := Str.ofString "__getitem__") ht.typeIs PyProof.Rows.slot_tuple_getitem
    (wpAny_call_entry PyProof.Rows.slot_tuple_getitem ht.typeIs entry_tuple_getitem ?_ (args_tuple_getitem _ _)))
  show wpAny _ _ (Builtin.Tuple.tupleItemsOf (.ref t) >>= _) _ _ s
  refine wpAny_bind (PyProof.Rows.tupleItemsOf_ ht ?_)
  refine wpAny_bind (wpAny_typeOf hTs ?_)
  rw [if_pos (by decide)]
  refine wpAny_bind (sliceApplied_rev hs ?_)
  show wpAny _ _ (if (((items.size : Int) - 1) == 0 && (-1 : Int) == 1 && items.size == items.size) = true then _ else _) _ _ s
  rw [if_neg (by simp), pick_rev]
  first
    | exact wpAny_bind (m := Builtin.Tuple.tupleExact _) (wpAny_newObj_type (wpAny_pure ⟨_, rfl, wpAny_pure h⟩) htake)
    | exact wpAny_bind (m := Builtin.Tuple.tupleExact _) (wpAny_newObj_type (wpAny_bind (wpAny_pure (wpAny_pure ⟨_, rfl, wpAny_pure h⟩))) htake)
    | exact wpAny_bind (wpAny_bind (m := Builtin.Tuple.tupleExact _) (wpAny_newObj_type (wpAny_pure (wpAny_pure ⟨_, rfl, wpAny_pure h⟩)) htake))
    | exact wpAny_bind (wpAny_bind (m := Builtin.Tuple.tupleExact _) (wpAny_newObj_type (wpAny_pure ⟨_, rfl, wpAny_pure h⟩) htake))
end
section
variable {X : Cx}
/-- e[::-1], a tuple or a list -/
def tRevA (K : PySem.W.Frag) (te : TE) : TE := fun σ H Q => te σ H fun x H1 => ∃ a xs, x = .ref a ∧ ((SqL K H1 a xs ∧ ∀ p, H1 p = none → Q (.ref p) (upd H1 p (.lst xs.reverse))) ∨ (SqT K H1 a xs ∧ ∀ p, H1 p = none → Q (.ref p) (upd H1 p (.tup xs.reverse))))
theorem pe_revA {e : Expr} {te : TE} {k : Nat} {p1 p2 p3 pos : Pos} (he : PE X e te) : PE X (.Subscript e (.Slice none none (some (.UnaryOp .USub (.Constant (.int 1) k p1) p2)) p3) pos) (tRevA X.K te) := by
  refine ⟨fun pins s σ H Q I h => ?_⟩
  refine Subscript_ (thn (he.run pins s σ H _ I h) fun v s1 ⟨x, H1, I1, r1, q1⟩ => ?_)
  obtain ⟨a, xs, ex, q1⟩ := q1
  subst ex
  cases r1
  have hst : PO X (some (.UnaryOp .USub (.Constant (.int 1) k p1) p2)) (tPart (tUn (rU fun i => .int (-i)) (tC (.int 1)))) := po_some (pe_un un_neg pe_int)
  refine wpAny_Slice (thn (po_none.run pins s1 σ H1 (fun o H2 => o = none ∧ H2 = H1) I1 ⟨rfl, rfl⟩) fun vl s2 ⟨l, H2, I2, pl, el, e2⟩ => ?_)
  subst el e2
  refine thn (po_none.run pins s2 σ H2 (fun o H3 => o = none ∧ H3 = H2) I2 ⟨rfl, rfl⟩) fun vu s3 ⟨u, H3, I3, pu, eu, e3⟩ => ?_
  subst eu e3
  refine thn (hst.run pins s3 σ H3 (fun o H4 => o = some (-1) ∧ H4 = H3) I3 ⟨1, rfl, -1, rfl, rfl, rfl⟩) fun vs s4 ⟨o, H4, I4, ps, eo, e4⟩ => ?_
  subst eo e4
  have I5 : Inv X pins σ H4 { s4 with heap := s4.heap.push { cls := .type "slice", data := .fields #[vl, vu, vs] } } := I4.kept (t' := s4.toks) fun b ob q => Heap.get?_push_of_some _ q
  show wpAny (model X.prog X.w) X.A (subscriptTail e (.Slice none none (some (.UnaryOp .USub (.Constant (.int 1) k p1) p2)) p3) (.ref a) (.ref s4.heap.objs.size)) (EP X pins σ Q) X.xe { s4 with heap := s4.heap.push { cls := .type "slice", data := .fields #[vl, vu, vs] } }
  rcases q1 with ⟨hx, q⟩ | ⟨hx, q⟩
  · obtain ⟨its, r, ht, hz⟩ := I5.list hx
    have hlen := r.length
    refine tail_any (ops := [.ref a, .ref s4.heap.objs.size]) ht.isList.typeIs (PySem.slot_list_getitem.lookup) ?_ (by with_unfolding_all rfl)
    refine wpAny_getItem_list_slice ht.isList (Heap.IsSliceOf.new _ vl vu vs) pl pu ps (by decide) ?_ (by rw [List.size_toArray]; omega)
    rw [PySem.W.krv_pick]
    refine ⟨.ref _, _, I5.laid (t' := s4.toks) (o := .lst xs.reverse) (fun b ob q => Heap.get?_push_of_some _ q) (Nat.le_refl _) ?_, rfl, q _ (I5.hok.fresh (Nat.le_refl _))⟩
    exact ⟨by rw [List.length_reverse]; exact hz, _, 0, r.reverse, Heap.get?_push_size _ rfl⟩
  · obtain ⟨its, r, ht, hz⟩ := I5.tuple hx
    have hlen := r.length
    cases pl
    cases pu
    cases ps
    refine tail_any (ops := [.ref a, .ref s4.heap.objs.size]) ht.typeIs (PyProof.Rows.slot_tuple_getitem.lookup) ?_ (by with_unfolding_all rfl)
    refine getItem_tuple_rev ht (Heap.IsSliceOf.new _ _ _ _) ?_ (by rw [List.size_toArray]; omega)
    refine ⟨.ref _, _, I5.laid (t' := s4.toks) (o := .tup xs.reverse) (fun b ob q => Heap.get?_push_of_some _ q) (Nat.le_refl _) ?_, rfl, q _ (I5.hok.fresh (Nat.le_refl _))⟩
    exact ⟨by rw [List.length_reverse]; exact hz, _, r.reverse, IsTup.new _ _⟩
/-! ### one-place operators, isinstance -/
def rNeg (K : PySem.W.Frag) : V → Hp → VK → Prop := fun x H Q => ∃ W s a d, RelSt K W s H ∧ Rep K W H a x ∧ negD a = some d ∧ ∀ v H', Got K false W H W s H' d v → Q v H'
theorem un_negD : UnR X (unaryOp .USub) (rNeg X.K) := by
  intro pins s σ H x v Q I rx h
  obtain ⟨W, st, a, d, R, ha, e, q⟩ := h
  cases a with
  | int i =>
    cases e
    exact un_neg pins s σ H x v Q I rx ⟨i, ha, q _ _ (Got.val R rfl rfl)⟩
  | _ => cases e
def tyName : Ty → Str
  | .int => "int" | .bool => "bool" | .tuple => "tuple" | .list => "list" | .str => "str" | .exc _ => "?"
def tyStr : Ty → String
  | .int => "int" | .bool => "bool" | .tuple => "tuple" | .list => "list" | .str => "str" | .exc _ => "?"
def rIsiD (K : PySem.W.Frag) (t : Ty) : List V → Hp → VK → Prop := fun vs H Q => ∃ W s a x b, RelSt K W s H ∧ RdV K W H a x ∧ vs = [x, .ty (tyStr t)] ∧ isiD t a = some b ∧ Q (.bl b) H
theorem call_isiD (t : Ty) : CallR X (.builtin "isinstance") (rIsiD X.K t) := by
  intro pins s σ H vs us Q I r h
  obtain ⟨W, st, a, x, b, R, ha, rfl, e, q⟩ := h
  have go : ∀ (ta : String), TyX X.K H x (.type ta) → kitB ta (tyStr t) = some b → wpAny (model X.prog X.w) X.A (call (.builtin "isinstance") us) (EP X pins σ Q) X.xe s := fun ta ty k =>
    call_isi pins s σ H _ us Q I r ⟨x, .ty (tyStr t), .type ta, .type (tyStr t), b, rfl, .ty _, ty, kit_ty k, q⟩
  cases a with
  | non =>
    have ha : x = .non := ha
    subst ha
    refine go "NoneType" (.base .non) ?_
    cases t <;> cases e <;> decide +kernel
  | bl c =>
    have ha : x = .bl c := ha
    subst ha
    refine go "bool" (.base (.bl c)) ?_
    cases t <;> cases e <;> decide +kernel
  | int c =>
    have ha : x = .int c := ha
    subst ha
    refine go "int" (.base (.int c)) ?_
    cases t <;> cases e <;> decide +kernel
  | str c =>
    have ha : x = .str c := ha
    subst ha
    refine go "str" (.base (.str c)) ?_
    cases t <;> cases e <;> decide +kernel
  | tup ds =>
    have ha : Rep X.K W H (.tup ds) x := ha
    simp only [Rep] at ha
    obtain ⟨p, ws, e1, t1, _⟩ := ha
    subst e1
    refine go "tuple" ?_ ?_
    · rcases t1 with (t1 | ⟨o, t1⟩) | ⟨o, its, n, t1, t2, _⟩
      · exact .base (.tup t1)
      · exact .fTuple t1
      · exact .kTuple t1 t2
    · cases t <;> cases e <;> decide +kernel
  | lst ds =>
    obtain ⟨p, ws, e1, t1, _⟩ := ha
    subst e1
    refine go "list" ?_ ?_
    · rcases t1 with (t1 | ⟨o, t1⟩) | ⟨o, its, n, t1, t2, _⟩
      · exact .base (.lst t1)
      · exact .base (.frz t1)
      · exact .kList t1 t2
    · cases t <;> cases e <;> decide +kernel
  | dct _ _ => cases t <;> cases e
  | set _ => cases t <;> cases e
  | loc _ => cases t <;> cases e
/-! ### lists that change -/
/-- a cell's place -/
theorem loc_get {K : PySem.W.Frag} {W : Wd} {H : Hp} {s : Sto} {n : Nat} {xs : List D} {x : V} (R : RelSt K W s H) (r : Rep K W H (.loc n) x) (e : s.getD n .non = .lst xs) :
    ∃ a vs, x = .ref a ∧ W.rho[n]? = some a ∧ H a = some (.lst vs) ∧ Reps K W H xs vs := by
  simp only [Rep] at r
  obtain ⟨a, e1, q⟩ := r
  obtain ⟨ds, vs, c1, c2, c3, _⟩ := R.cell n a q
  rw [List.getD_eq_getElem?_getD, c1] at e
  cases e
  exact ⟨a, vs, e1, q, c2, c3⟩
theorem putC_ok {n : Nat} {c : D} {s : Sto} {s' : Sto} {u : Unit} (h : putC n c s = .ok u s') : n < s.length ∧ below n c = true ∧ s' = s.set n c := by
  unfold putC at h
  split at h
  · rename_i q
    simp only [Bool.and_eq_true, decide_eq_true_eq] at q
    cases h
    exact ⟨q.1, q.2, rfl⟩
  · cases h
/-- what a change of a cell leaves -/
structure Chg (K : PySem.W.Frag) (W : Wd) (H : Hp) (s' : Sto) (H' : Hp) : Prop where
  pres : Pres W H W H'
  st : RelSt K W s' H'
theorem chg {K : PySem.W.Frag} {W : Wd} {H : Hp} {s s' : Sto} {n : Nat} {ds : List D} {vs : List V} {a : Addr} {u : Unit} (R : RelSt K W s H) (ha : W.rho[n]? = some a) (r : Reps K W H ds vs) (h : putC n (.lst ds) s = .ok u s') : Chg K W H s' (upd H a (.lst vs)) := by
  obtain ⟨_, b, e⟩ := putC_ok h
  subst e
  simp only [below] at b
  obtain ⟨p, q⟩ := R.put ha r b
  exact ⟨q, p⟩
def rSetD (K : PySem.W.Frag) : TSet := fun o i v H Q => ∃ W s n k d xs ys s' u, RelSt K W s H ∧ Rep K W H (.loc n) o ∧ Rep K W H (.int k) i ∧ Rep K W H d v ∧ s.getD n .non = .lst xs ∧ setAt xs k d = some ys ∧ putC n (.lst ys) s = .ok u s' ∧ ∀ H', Chg K W H s' H' → Q H'
theorem set_D : PSet X (rSetD X.K) := by
  intro pins s σ H o i v ov iv u Q I ro ri rv h
  obtain ⟨W, st, n, k, d, xs, ys, s', u', R, ho, hi, hd, e1, e2, e3, q⟩ := h
  obtain ⟨a, vs, eo, ea, hH, r⟩ := loc_get R ho e1
  have hl := r.length
  have hi : i = .int k := hi
  unfold setAt at e2
  split at e2
  · rename_i hk
    cases e2
    refine set_list pins s σ H o i v ov iv u Q I ro ri rv ⟨a, vs, k, k.toNat, eo, hi, hH, ?_, q _ (chg R ea (r.set hd _) e3)⟩
    unfold ixN
    rw [if_pos hk.1, if_pos (by omega)]
  · split at e2
    · rename_i hk
      cases e2
      refine set_list pins s σ H o i v ov iv u Q I ro ri rv ⟨a, vs, k, (k + xs.length).toNat, eo, hi, hH, ?_, q _ (chg R ea (r.set hd _) e3)⟩
      unfold ixN
      rw [if_neg (by omega), if_pos (by omega), hl]
    · cases e2
def rAppD (K : PySem.W.Frag) : V → List V → Hp → VK → Prop := fun x vs H Q => ∃ W s n d y xs s' u, RelSt K W s H ∧ Rep K W H (.loc n) x ∧ vs = [y] ∧ Rep K W H d y ∧ s.getD n .non = .lst xs ∧ xs.length < big ∧ putC n (.lst (xs ++ [d])) s = .ok u s' ∧ ∀ H', Chg K W H s' H' → Q .non H'
theorem mt_appD : MtR X "list.append" (rAppD X.K) := by
  intro pins s σ H x vs v us Q I rx rv h
  obtain ⟨W, st, n, d, y, xs, s', u, R, hx, e0, hy, e1, e2, e3, q⟩ := h
  obtain ⟨a, ws, eo, ea, hH, r⟩ := loc_get R hx e1
  have hl := r.length
  exact mt_append pins s σ H x vs v us Q I rx rv ⟨a, ws, y, eo, e0, hH, by rw [← big_eq]; omega, q _ (chg R ea (r.append (Reps.one hy)) e3)⟩
def rExtD (K : PySem.W.Frag) : V → List V → Hp → VK → Prop := fun x vs H Q => ∃ W s n p zs xs ys s' u, RelSt K W s H ∧ Rep K W H (.loc n) x ∧ vs = [.ref p] ∧ H p = some (.lst zs) ∧ Reps K W H ys zs ∧ s.getD n .non = .lst xs ∧ xs.length + ys.length ≤ big ∧ putC n (.lst (xs ++ ys)) s = .ok u s' ∧ ∀ H', Chg K W H s' H' → Q .non H'
theorem mt_extD : MtR X "list.extend" (rExtD X.K) := by
  intro pins s σ H x vs v us Q I rx rv h
  obtain ⟨W, st, n, p, zs, xs, ys, s', u, R, hx, e0, hp, r4, e1, e2, e3, q⟩ := h
  obtain ⟨a, ws, eo, ea, hH, r⟩ := loc_get R hx e1
  have hl := r.length
  have hl4 := r4.length
  exact mt_extend pins s σ H x vs v us Q I rx rv ⟨a, p, ws, zs, eo, e0, hH, hp, by rw [← big_eq]; omega, q _ (chg R ea (r.append r4) e3)⟩
/-- pop() and pop(i) -/
def rPopD (K : PySem.W.Frag) : V → List V → Hp → VK → Prop := fun x vs H Q => ∃ W s n xs ys d s' u, RelSt K W s H ∧ Rep K W H (.loc n) x ∧ s.getD n .non = .lst xs ∧
  ((vs = [] ∧ xs[xs.length - 1]? = some d ∧ ys = xs.dropLast) ∨ (∃ i : Int, vs = [.int i] ∧ 0 ≤ i ∧ xs[i.toNat]? = some d ∧ ys = xs.eraseIdx i.toNat)) ∧ putC n (.lst ys) s = .ok u s' ∧ ∀ v H', Chg K W H s' H' → Rep K W H' d v → Q v H'
theorem Reps.dropLast {K : PySem.W.Frag} {W : Wd} {H : Hp} {ds : List D} {vs : List V} (r : Reps K W H ds vs) : Reps K W H ds.dropLast vs.dropLast := by
  rw [List.dropLast_eq_take, List.dropLast_eq_take, r.length]
  exact r.take _
theorem mt_popD : MtR X "list.pop" (rPopD X.K) := by
  intro pins s σ H x vs v us Q I rx rv h
  obtain ⟨W, st, n, xs, ys, d, s', u, R, hx, e1, hc, e3, q⟩ := h
  obtain ⟨a, ws, eo, ea, hH, r⟩ := loc_get R hx e1
  have hl := r.length
  have hz : ws.length ≤ sizeLine := (I.hok a _ hH).1
  have hsz := sizeLine_eq
  rcases hc with ⟨e4, e5, e6⟩ | ⟨i, e4, h0, e5, e6⟩
  · subst e6
    obtain ⟨y, ey, ry⟩ := r.get e5
    have c := chg R ea r.dropLast e3
    exact mt_pop pins s σ H x vs v us Q I rx rv ⟨a, ws, y, eo, e4, hH, by rw [← hl]; exact ey, q _ _ c (Rep.pres c.pres ry)⟩
  · subst e6
    obtain ⟨y, ey, ry⟩ := r.get e5
    have hi := (List.getElem?_eq_some_iff.mp ey).1
    have c := chg R ea (r.eraseIdx i.toNat) e3
    exact mt_popAt pins s σ H x vs v us Q I rx rv ⟨a, ws, i, i.toNat, y, eo, e4, hH, by omega, by omega, seqIndex_of h0 (by omega), ey, q _ _ c (Rep.pres c.pres ry)⟩
end
end Pv
end
section
set_option maxRecDepth 100000
set_option maxHeartbeats 4000000
namespace Pv
open PySem PySem.Spec PyProof.Rows L2
/-! ### the checker: the evaluator's text is the program's -/
/-- fns: the defs' names; fr: hands back a new list; cons: the module's constants; free: names that the module leaves to the built-ins; mods: names that it binds to built-in functions; excs: its error classes -/
structure GC where
  fns : List Str
  fr : List Bool
  dfl : List (List D)
  cons : List (Str × D)
  free : List Str
  mods : List Str
  excs : List Str
  lams : List (Str × D × List (Nat × D))
  tabs : List Str
/-- where a text stands: the def's names by slot, the scope, a comprehension's own scope -/
structure SX where
  N : List Str
  sc : Scope
  bs : Option Scope
  lam : Bool
def frOf (G : GC) (f : Nat) : Bool := G.fr.getD f false
/-- hands back a list that is new -/
def fresh (G : GC) : CE → Bool
  | .lst _ => true
  | .comp _ _ _ _ _ => true
  | .bin _ _ _ => true
  | .bi .list _ => true
  | .slc _ _ _ => true
  | .slr _ => true
  | .call f _ => frOf G f
  | .callD f _ _ => frOf G f
  | _ => false
def isDb (x : Str) : Bool := decide (x = ("__debug__" : Str)) || decide (x = ("__classdict__" : Str))
def visB (sc : Scope) (x : Str) : Bool := match sc.names.lookup x with
  | some .local | some .cell | some .free => true
  | _ => false
def locB (sc : Scope) (x : Str) : Bool := match sc.names.lookup x with
  | some .local | some .cell => true
  | _ => false
def glB (sc : Scope) (x : Str) : Bool := decide (sc.names.lookup x = some .globalImplicit) && !isDb x && decide (x ≠ ("__name__" : Str))
/-- a name that may be stored here -/
def stoB (S : SX) (x : Str) : Bool := locB S.sc x && match S.bs with
  | none => true
  | some b => locB b x
def freeB (G : GC) (S : SX) (x : Str) : Bool := glB S.sc x && G.free.contains x
def noStar : Expr → Bool
  | .Starred _ _ => false
  | _ => true
def noSet : Expr → Bool
  | .Set _ _ _ => false
  | _ => true
def noSlice : Expr → Bool
  | .Slice _ _ _ _ => false
  | _ => true
/-- what a method may be called of -/
def baseB : Expr → Bool
  | .Name _ _ | .Subscript _ _ _ => true
  | _ => false
def isTest : Expr → Bool
  | .Name _ _ | .Subscript _ _ _ | .Call _ _ _ _ | .Constant _ _ _ => true
  | _ => false
def opB : Op → Operator → Bool
  | .add, .Add | .sub, .Sub | .mul, .Mult | .fdiv, .FloorDiv | .mod, .Mod | .pow, .Pow => true
  | _, _ => false
def cpB : Cp → CmpOp → Bool
  | .eq, .Eq | .ne, .NotEq | .lt, .Lt | .le, .LtE | .gt, .Gt | .ge, .GtE | .isin, .In | .notin, .NotIn | .is_, .Is | .isnot, .IsNot => true
  | _, _ => false
def litB : D → Const → Bool
  | .non, .none => true
  | .bl a, .bool b => a == b
  | .int i, .int j => decide (i = j)
  | .str x, .str y => decide (x = y)
  | _, _ => false
def consB (G : GC) (x : Str) (d : D) : Bool := G.cons.any fun p => decide (p.1 = x) && same p.2 d
def ownB (S : SX) (scope : Scope) (own : List (Str × Nat)) : Bool := blkC S.N S.sc scope own
def blkSX (S : SX) (scope : Scope) : SX := ⟨S.N, relS scope S.sc, some scope, S.lam⟩
def biTy : BI → Bool
  | .int | .tuple | .list => true
  | _ => false
/-- may stand as a test -/
def tst : CE → Bool
  | .and a b => tst a && tst b
  | .or a b => tst a && tst b
  | .not a => tst a
  | .var _ | .lit _ | .glo _ _ | .idx _ _ | .call _ _ | .callD _ _ _ | .tryL _ _ _ | .bi _ _ | .isi _ _ | .pop _ _ | .cmp _ _ _ | .chn _ _ _ _ _ => true
  | _ => false
/-- where a built-in function's name is bound -/
def biB (G : GC) (b : BI) (x : Str) : Bool := match b with
  | .gcd | .comb => G.mods.contains x
  | _ => G.free.contains x
/-- a lambda without parameters -/
def noPar : Arguments → Bool
  | ⟨[], [], none, [], [], none, []⟩ => true
  | _ => false
def lamS (sc scope : Scope) : Bool := LamX.lamSB sc scope
def sameTb : List (Nat × D) → List (Nat × D) → Bool
  | [], [] => true
  | (a, x) :: r, (b, y) :: t => decide (a = b) && same x y && sameTb r t
  | _, _ => false
def lamF (ls : List (Str × D × List (Nat × D))) (x : Str) (d : D) (tb : List (Nat × D)) : Bool := ls.any fun p => decide (p.1 = x) && same p.2.1 d && sameTb p.2.2 tb
mutual
def tgIn (ix : List Nat) : Tg → Bool
  | .nm i => ix.contains i
  | .tp ts => tgsIn ix ts
  | .sub _ _ => false
def tgsIn (ix : List Nat) : Tgs → Bool
  | .nil => true
  | .cons t r => tgIn ix t && tgsIn ix r
end
mutual
def chkE (G : GC) (S : SX) : CE → Expr → Bool
  | .var i, e => match e with
    | .Name x _ => decide (S.N[i]? = some x) && visB S.sc x && !isDb x
    | _ => false
  | .lit d, e => match e with
    | .Constant k _ _ => litB d k
    | _ => false
  | .glo y d, e => match e with
    | .Name x _ => decide (x = y) && glB S.sc x && consB G x d
    | _ => false
  | .bin o a b, e => match e with
    | .BinOp l op r _ => opB o op && chkE G S a l && chkE G S b r
    | _ => false
  | .neg a, e => match e with
    | .UnaryOp .USub l _ => chkE G S a l
    | _ => false
  | .cmp o a b, e => match e with
    | .Compare l [op] [r] _ => cpB o op && !behindInMarks op r && chkE G S a l && chkE G S b r
    | _ => false
  | .chn o p a b d, e => match e with
    | .Compare l [op, op2] [r, t] _ => cpB o op && cpB p op2 && !lastMarks [op, op2] [r, t] && chkE G S a l && chkE G S b r && chkE G S d t
    | _ => false
  | .and a b, e => match e with
    | .BoolOp .And (x :: y :: rest) pos => chkE G S a x && chkE G S b (match rest with
      | [] => y
      | _ => .BoolOp .And (y :: rest) pos)
    | _ => false
  | .or a b, e => match e with
    | .BoolOp .Or (x :: y :: rest) pos => chkE G S a x && chkE G S b (match rest with
      | [] => y
      | _ => .BoolOp .Or (y :: rest) pos)
    | _ => false
  | .not a, e => match e with
    | .UnaryOp .Not l _ => chkE G S a l
    | _ => false
  | .ite t a b, e => match e with
    | .IfExp u l r _ => tst t && chkE G S t u && chkE G S a l && chkE G S b r
    | _ => false
  | .tup es, e => match e with
    | .Tuple xs _ _ => chkEs G S es xs && decide (xs.length ≤ 1000)
    | _ => false
  | .lst es, e => match e with
    | .List xs _ => chkEs G S es xs && decide (xs.length ≤ 1000)
    | _ => false
  | .idx a i, e => match e with
    | .Subscript l r _ => noSlice r && chkE G S a l && chkE G S i r
    | _ => false
  | .slc a lo hi, e => match e with
    | .Subscript l (.Slice lo' hi' none _) _ => chkE G S a l && (match lo' with
        | none => chkEs G S lo []
        | some x => chkEs G S lo [x]) && (match hi' with
        | none => chkEs G S hi []
        | some x => chkEs G S hi [x])
    | _ => false
  | .slr a, e => match e with
    | .Subscript l (.Slice none none (some (.UnaryOp .USub (.Constant (.int i) _ _) _)) _) _ => decide (i = 1) && chkE G S a l
    | _ => false
  | .call f es, e => match e with
    | .Call (.Name x _) xs [] _ => decide (G.fns[f]? = some x) && glB S.sc x && chkEs G S es xs
    | _ => false
  | .callD f es ds, e => match e with
    | .Call (.Name x _) xs [] _ => decide (G.fns[f]? = some x) && glB S.sc x && !xs.isEmpty && chkEs G S es xs && sames ds ((G.dfl.getD f []).drop ((G.dfl.getD f []).length - ds.length))
    | _ => false
  | .tryL d tb b, e => match e with
    | .Call (.Name x _) [.Lambda ar body scope _] [] _ => S.lam && glB S.sc x && noPar ar && lamS S.sc scope && lamF G.lams x d tb && chkE G ⟨S.N, scope, none, false⟩ b body
    | _ => false
  | .bi b es, e => match e with
    | .Call (.Name x _) (y :: ys) [] _ => decide (x = biName b) && glB S.sc x && biB G b x && chkEs G S es (y :: ys)
    | _ => false
  | .isi a t, e => match e with
    | .Call (.Name x _) [y, .Name z _] [] _ => decide (x = "isinstance") && freeB G S x && decide (z = tyName t) && freeB G S z && (match t with
        | .exc _ => false
        | _ => true) && chkE G S a y && noStar y
    | _ => false
  | .comp own tg it ifs elt, e => match e with
    | .ListComp el [⟨t, i, fs, 0⟩] scope _ => ownB S scope own && chkI G S it i && (match t, it with
        | .Tuple _ _ _, _ => true
        | _, .zip _ _ => false
        | _, .enum _ => false
        | _, _ => true) && tgIn (own.map (·.2)) tg && chkT G (blkSX S scope) tg t && chkF G (blkSX S scope) ifs fs && chkE G (blkSX S scope) elt el
    | _ => false
  | .thaw a, e => fresh G a && chkE G S a e
  | .pop o es, e => match e with
    | .Call (.Attribute l n apos) xs [] cpos => decide (n = "pop") && baseB l && (apos.endLine == cpos.line) && chkE G S o l && chkEs G S es xs && decide (xs.length ≤ 1)
    | _ => false
def chkEs (G : GC) (S : SX) : CEs → List Expr → Bool
  | .nil, xs => xs.isEmpty
  | .cons a r, xs => match xs with
    | x :: rest => noStar x && chkE G S a x && chkEs G S r rest
    | [] => false
def chkF (G : GC) (S : SX) : CEs → List Expr → Bool
  | .nil, xs => xs.isEmpty
  | .cons a r, xs => match xs with
    | [x] => (match r with
      | .nil => tst a && chkE G S a x
      | _ => false)
    | _ => false
def chkI (G : GC) (S : SX) : CI → Expr → Bool
  | .of a, e => noSet e && chkE G S a e
  | .range es, e => match e with
    | .Call (.Name x _) xs [] _ => decide (x = "range") && freeB G S x && chkEs G S es xs && decide (xs.length ≤ 3)
    | _ => false
  | .revr es, e => match e with
    | .Call (.Name x _) [.Call (.Name z _) xs [] _] [] _ => decide (x = "reversed") && freeB G S x && decide (z = "range") && freeB G S z && chkEs G S es xs && decide (xs.length ≤ 2)
    | _ => false
  | .zip a b, e => match e with
    | .Call (.Name x _) [y, z] [] _ => decide (x = "zip") && freeB G S x && chkE G S a y && chkE G S b z && noStar y && noStar z
    | _ => false
  | .enum a, e => match e with
    | .Call (.Name x _) [y] [] _ => decide (x = "enumerate") && freeB G S x && chkE G S a y && noStar y
    | _ => false
  | .rev a, e => match e with
    | .Call (.Name x _) [y] [] _ => decide (x = "reversed") && freeB G S x && chkE G S a y && noStar y
    | _ => false
def chkT (G : GC) (S : SX) : Tg → Expr → Bool
  | .nm i, e => match e with
    | .Name x _ => decide (S.N[i]? = some x) && stoB S x
    | _ => false
  | .tp ts, e => match e with
    | .Tuple xs _ _ => chkTs G S ts xs
    | _ => false
  | .sub o i, e => match e with
    | .Subscript l r _ => noSlice r && chkE G S o l && chkE G S i r
    | _ => false
def chkTs (G : GC) (S : SX) : Tgs → List Expr → Bool
  | .nil, xs => xs.isEmpty
  | .cons t r, xs => match xs with
    | x :: rest => noStar x && chkT G S t x && chkTs G S r rest
    | [] => false
end
end Pv
end
section
set_option maxRecDepth 100000
set_option maxHeartbeats 4000000
namespace Pv
open PySem PySem.Spec PyProof.Rows L2
/-! ### what an outcome promises -/
abbrev Rl (α β : Type) := Wd → Hp → Wd → Sto → Hp → α → β → Prop
structure GT {α β : Type} (K : PySem.W.Frag) (G : Rl α β) : Prop where
  trans : ∀ {W H W1 H1 W' s' H' a b}, Pres W H W1 H1 → G W1 H1 W' s' H' a b → G W H W' s' H' a b
  pres : ∀ {W H W' s' H' a b}, G W H W' s' H' a b → Pres W H W' H'
  st : ∀ {W H W' s' H' a b}, G W H W' s' H' a b → RelSt K W' s' H'
section
variable (K : PySem.W.Frag) (Wx : WX) (ea : Nat → Addr) (σ : L2.St)
def Exc (W : Wd) (H : Hp) (k : Nat) (v : D) (s' : Sto) : Prop :=
  v = .non ∧ ∀ W' H', Pres W H W' H' → RelSt K W' s' H' → Wx (.ref (ea k)) none σ H'
def Sat {α β : Type} (G : Rl α β) (W : Wd) (H : Hp) (x : Out α) (Q : β → Hp → Prop) : Prop :=
  match x with
  | .ok a s' => ∀ W' H' b, G W H W' s' H' a b → Q b H'
  | .exc k v s' => Exc K Wx ea σ W H k v s'
  | .bad => False
def GE (fr : Bool) : Rl D V := fun W H W' s' H' d v => Got K fr W H W' s' H' d v
def GL : Rl (List D) (List V) := fun W H W' s' H' ds vs => Pres W H W' H' ∧ RelSt K W' s' H' ∧ Reps K W' H' ds vs
def GB : Rl Bool Bool := fun W H W' s' H' a b => Pres W H W' H' ∧ RelSt K W' s' H' ∧ a = b
end
section
variable {K : PySem.W.Frag} {Wx : WX} {ea : Nat → Addr} {σ : L2.St} {W W1 : Wd} {H H1 : Hp}
theorem GE.gt {fr : Bool} : GT K (GE K fr) := ⟨fun p g => Got.trans (fr' := fr) p g, fun g => g.pres, fun g => g.st⟩
theorem GL.gt : GT K (GL K) := ⟨fun p g => ⟨p.trans g.1, g.2⟩, fun g => g.1, fun g => g.2.1⟩
theorem GB.gt : GT K (GB K) := ⟨fun p g => ⟨p.trans g.1, g.2⟩, fun g => g.1, fun g => g.2.1⟩
theorem Exc.pres {k : Nat} {v : D} {s' : Sto} (p : Pres W H W1 H1) (h : Exc K Wx ea σ W H k v s') : Exc K Wx ea σ W1 H1 k v s' :=
  ⟨h.1, fun W' H' p' r => h.2 W' H' (p.trans p') r⟩
theorem Sat.pres {α β : Type} {G : Rl α β} (T : GT K G) {x : Out α} {Q : β → Hp → Prop} (p : Pres W H W1 H1) (h : Sat K Wx ea σ G W H x Q) : Sat K Wx ea σ G W1 H1 x Q := by
  cases x with
  | ok a s' => exact fun W' H' b g => h W' H' b (T.trans p g)
  | exc k v s' => exact Exc.pres p h
  | bad => exact h
theorem Sat.imp {α β : Type} {G : Rl α β} {x : Out α} {Q Q' : β → Hp → Prop} (h : Sat K Wx ea σ G W H x Q) (i : ∀ b H', Q b H' → Q' b H') : Sat K Wx ea σ G W H x Q' := by
  cases x with
  | ok a s' => exact fun W' H' b g => i _ _ (h W' H' b g)
  | exc k v s' => exact h
  | bad => exact h
/-- first x, then the rest -/
theorem Sat.bind {α β γ δ : Type} {G1 : Rl α β} {G2 : Rl γ δ} (T1 : GT K G1) (T2 : GT K G2) {x : Out α} {f : α → Sto → Out γ} {Q : δ → Hp → Prop} (h : Sat K Wx ea σ G2 W H (x.bind f) Q) :
    Sat K Wx ea σ G1 W H x fun b H1 => ∃ W1 s1 a, G1 W H W1 s1 H1 a b ∧ Sat K Wx ea σ G2 W1 H1 (f a s1) Q := by
  cases x with
  | ok a s' => exact fun W' H' b g => ⟨W', s', a, g, Sat.pres T2 (T1.pres g) h⟩
  | exc k v s' => exact h
  | bad => exact h
theorem Sat.lift {β : Type} {G : Rl D β} {d : Option D} {s : Sto} {Q : β → Hp → Prop} (h : Sat K Wx ea σ G W H (lift d s) Q) : ∃ x, d = some x ∧ ∀ W' H' b, G W H W' s H' x b → Q b H' := by
  cases d with
  | none => exact h.elim
  | some x => exact ⟨x, rfl, h⟩
theorem Sat.truth {β : Type} {G : Rl Bool β} {d : D} {s : Sto} {Q : β → Hp → Prop} (h : Sat K Wx ea σ G W H (truth d s) Q) : ∃ x, d = .bl x ∧ ∀ W' H' b, G W H W' s H' x b → Q b H' := by
  cases d with
  | bl b => exact ⟨b, rfl, h⟩
  | _ => exact h.elim
end
/-! ### where a text stands -/
section
variable (C : Cl) (K : PySem.W.Frag) (Wx : WX) (ea : Nat → Addr)
def tE (fr : Bool) (c : CE) : TE := fun σ H Q => ∃ W e s, RelSt K W s H ∧ RelEn K W H e σ ∧ Sat K Wx ea σ (GE K fr) W H (evE C c e s) Q
def tT (c : CE) : TT := fun σ H Q => ∃ W e s, RelSt K W s H ∧ RelEn K W H e σ ∧ Sat K Wx ea σ (GB K) W H ((evE C c e s).bind truth) Q
def tA (c : CEs) : TA := fun σ H Q => ∃ W e s, RelSt K W s H ∧ RelEn K W H e σ ∧ Sat K Wx ea σ (GL K) W H (evEs C c e s) Q
def tF (c : CEs) : TT := fun σ H Q => ∃ W e s, RelSt K W s H ∧ RelEn K W H e σ ∧ Sat K Wx ea σ (GB K) W H (evIf C c e s) Q
end
/-- what is walked -/
structure WalkD (K : PySem.W.Frag) (J : It) (ds : List D) (gd : Gd) (Sq : Wd → Hp → Prop) : Prop where
  mono : ∀ {W H W' H'}, Keeps K W H W' H' W.rho.length → Sq W H → Sq W' H'
  go : ∀ i W s H, i < ds.length → RelSt K W s H → gok s gd = true → Sq W H → J.go i H
  stop : ∀ W s H, RelSt K W s H → gok s gd = true → Sq W H → J.stop ds.length H
  yld : ∀ i W s H x H', i < ds.length → RelSt K W s H → gok s gd = true → Sq W H → J.yld i H x H' → ∃ d, ds[i]? = some d ∧ Pres W H W H' ∧ RelSt K W s H' ∧ Rep K W H' d x
def GI (K : PySem.W.Frag) : Rl (List D × Gd) It := fun W H W' s' H' w J => Pres W H W' H' ∧ RelSt K W' s' H' ∧ ∃ Sq, WalkD K J w.1 w.2 Sq ∧ Sq W' H'
theorem GI.gt {K : PySem.W.Frag} : GT K (GI K) := ⟨fun p g => ⟨p.trans g.1, g.2⟩, fun g => g.1, fun g => g.2.1⟩
/-- a store: the slots of tg alone -/
def GN (K : PySem.W.Frag) (σ : L2.St) (tg : Nat → Bool) : Rl En L2.St := fun W H W' s' H' e σ' => Pres W H W' H' ∧ RelSt K W' s' H' ∧ RelEn K W' H' e σ' ∧ σ'.length = σ.length ∧ ∀ i, tg i = false → σ'[i]? = σ[i]?
theorem GN.gt {K : PySem.W.Frag} {σ : L2.St} {tg : Nat → Bool} : GT K (GN K σ tg) := ⟨fun p g => ⟨p.trans g.1, g.2⟩, fun g => g.1, fun g => g.2.1⟩
mutual
def tgSl : Tg → Nat → Bool
  | .nm i, j => i == j
  | .tp ts, j => tgsSl ts j
  | .sub _ _, _ => false
def tgsSl : Tgs → Nat → Bool
  | .nil, _ => false
  | .cons t r, j => tgSl t j || tgsSl r j
end
section
variable (C : Cl) (K : PySem.W.Frag) (Wx : WX) (ea : Nat → Addr)
def tI (c : CI) : TI := fun σ H R => ∃ W e s, RelSt K W s H ∧ RelEn K W H e σ ∧ Sat K Wx ea σ (GI K) W H (evI C c e s) R
def tG (t : Tg) : TG := fun v σ H Q => ∃ W e s d, RelSt K W s H ∧ RelEn K W H e σ ∧ Rep K W H d v ∧ Sat K Wx ea σ (GN K σ (tgSl t)) W H (evT C t d e s) Q
def tGs (t : Tgs) : TGs := fun vs σ H Q => ∃ W e s ds, RelSt K W s H ∧ RelEn K W H e σ ∧ Reps K W H ds vs ∧ Sat K Wx ea σ (GN K σ (tgsSl t)) W H (evTs C t ds e s) Q
/-- a def's promise -/
def SatF (fr : Bool) (W : Wd) (H : Hp) (Q : VK) (E : XK) (x : Out D) : Prop :=
  match x with
  | .ok d s' => ∀ H' v, Got K fr W H W s' H' d v → Q v H'
  | .exc k v s' => v = .non ∧ ∀ H', Pres W H W H' → RelSt K W s' H' → E (.ref (ea k)) none H'
  | .bad => False
def spD (fr : Bool) (f : Nat) (np : Nat) : Sp := fun vs H Q E => ∃ W s ds, RelSt K W s H ∧ Reps K W H ds vs ∧ ds.length = np ∧ SatF K ea fr W H Q E (C.fn f ds s)
end
/-- an error class that may be raised -/
structure ExcF (K : PySem.W.Frag) (mg : Str → Option Value) (a : Addr) (x : Str) : Prop where
  m : mg x = some (.ref a)
  kp : PySem.W.keepIn K (.ref a) = true
  q : PySem.W.excIn K a He.veBase "ValueError.__new__" = true
  b : PySem.W.subIn K (.ref a) (.type "BaseException") = some true
  t : PySem.W.typeIn K (.ref a) = some (.type "type")
def litV : D → V
  | .bl b => .bl b
  | .int i => .int i
  | .str z => .str z
  | _ => .non
def isLit : D → Bool
  | .non | .bl _ | .int _ | .str _ => true
  | _ => false
theorem litV_rep {K : PySem.W.Frag} {W : Wd} {H : Hp} {d : D} (h : isLit d = true) : Rep K W H d (litV d) := by
  cases d <;> first | rfl | cases h
/-- a def that calls what it got: d if that raises nothing, else what tb says of the class -/
def TTl (ea : Nat → Addr) (d : D) (tb : List (Nat × D)) : (XK → Hp → VK → Prop) → Hp → VK → Prop := fun tl H Q =>
  tl (fun cls dd H' => ∃ k r, cls = .ref (ea k) ∧ dd = none ∧ tb.lookup k = some r ∧ Q (litV r) H') H (fun _ H' => Q (litV d) H')
def LamD (K : PySem.W.Frag) (mg : Str → Option Value) (ea : Nat → Addr) (x : Str) (d : D) (tb : List (Nat × D)) : Prop :=
  ∃ (a : Str) (g : Addr) (pg : Arguments) (bg : List Stmt) (sg : Scope) (dV kV doc pm cdv ct oc : Value) (an od : Option Addr) (osl : Array (Option Value)) (Ng : List Str),
    mg x = some (.ref g) ∧ PySem.W.keepIn K (.ref g) = true ∧ K.lookup g = some ⟨oc, od, .func (PySem.W.fnOf x x pg bg sg dV kV doc pm an cdv ct), osl⟩ ∧ PySem.W.codeIn K cdv x = true ∧ Binds K (PySem.W.fnOf x x pg bg sg dV kV doc pm an cdv ct) [a] [] ∧
      FnScope Ng [a] sg ∧ Ng[0]? = some a ∧ Vis sg a ∧ (a == ("__debug__" : Str)) = false ∧ (a == ("__classdict__" : Str)) = false ∧
      ∀ (X' : Cx) (q : Str), X'.K = K → X'.mg = mg → LamX.GivesTo X' Ng x sg g cdv bg a q (TTl ea d tb)
/-- what is known of a place -/
structure Ctx (G : GC) (S : SX) (C : Cl) (Wx : WX) (ea : Nat → Addr) (k : Nat) (X : Cx) : Prop where
  N : X.N = S.N
  nd : X.N.Nodup
  sc : X.env.scope = S.sc
  calm : X.calm = true
  room : Room k X.A
  tk : Takes X Wx
  sto : ∀ x, stoB S x = true → X.fn x = true ∨ X.env.scope.names.lookup x = some .local
  cons : ∀ x d, consB G x d = true → ∃ u v, X.mg x = some u ∧ RelV v u ∧ ∀ W H, Rep X.K W H d v
  free : ∀ x, G.free.contains x = true → X.mg x = none
  mods : ∀ b, G.mods.contains (biName b) = true → X.mg (biName b) = some (biVal b)
  fns : ∀ f x, G.fns[f]? = some x → ∃ fa fd ps, X.mg x = some (.ref fa) ∧ PySem.W.keepIn X.K (.ref fa) = true ∧ Binds X.K fd ps [] ∧
    FnOk X.prog X.w X.K X.mg X.base (L2.CX X.prog X.w) k fa fd ps (spD C X.K ea (frOf G f) f ps.length) ∧ (∀ ds s, ds.length ≠ ps.length → C.fn f ds s = .bad) ∧
    ∀ ds : List D, sames ds ((G.dfl.getD f []).drop ((G.dfl.getD f []).length - ds.length)) = true → ds.length ≤ ps.length → ∃ us, Binds X.K fd ps us ∧ Vals (ds.map litV) us ∧ ds.all isLit = true
  exc : ∀ k x, G.excs[k]? = some x → ExcF X.K X.mg (ea k) x
  lams : ∀ x d tb, lamF G.lams x d tb = true → LamD X.K X.mg ea x d tb ∧ isLit d = true ∧ ∀ k r, tb.lookup k = some r → isLit r = true
  lam : S.lam = true → Room (k + 2) X.A ∧ ∃ c P, LamX.TabB X.base X.mg c P ∧ X.env.code = .ref c ∧ (P, lamN X.env.qual) ∈ TK X.K ∧ ∀ p ∈ TK X.K, p.1 = P → p.2 = lamN X.env.qual
section
variable {G : GC} {S : SX} {C : Cl} {Wx : WX} {ea : Nat → Addr} {k : Nat} {X : Cx}
theorem takesF {X : Cx} : Takes X (fun _ _ _ _ => False) := fun _ _ ⟨_, _, _, _, _, _, _, _, _, _, _, _, _, _, _, _, w⟩ => w.elim
theorem loc_of {sc : Scope} {x : Str} (h : locB sc x = true) : Loc sc x := by
  unfold locB at h
  split at h
  · exact .inl (by assumption)
  · exact .inr (by assumption)
  · cases h
theorem vis_of {sc : Scope} {x : Str} (h : visB sc x = true) : Vis sc x := by
  unfold visB at h
  split at h
  · exact .inl (by assumption)
  · exact .inr (.inl (by assumption))
  · exact .inr (.inr (by assumption))
  · cases h
theorem Ctx.blk (c : Ctx G S C Wx ea k X) {scope : Scope} (s : Shared) (H : Hp) (CA : Addr) (cl : List (Str × Addr)) (fp : List Addr) :
    Ctx G (blkSX S scope) C (fun _ _ _ _ => False) ea k (X.blk s H scope (compEnvC scope cl CA X.env) fp) := by
  have hsc : (compEnvC scope cl CA X.env).scope = relS scope S.sc := by rw [← c.sc]; rfl
  refine ⟨c.N, c.nd, hsc, c.calm, c.room, takesF, fun x h => ?_, c.cons, c.free, c.mods, c.fns, c.exc, c.lams, c.lam⟩
  unfold stoB blkSX at h
  simp only [Bool.and_eq_true] at h
  obtain ⟨h1, h2⟩ := h
  show (scope.names.lookup x == some NameKind.cell) = true ∨ (compEnvC scope cl CA X.env).scope.names.lookup x = some .local
  unfold locB at h2
  split at h2
  · rename_i q
    right
    rw [hsc]
    exact lookup_relS_keep (by decide) q
  · rename_i q
    left
    rw [q]; rfl
  · cases h2
theorem isDb_no {x : Str} (h : isDb x = false) : (x == ("__debug__" : Str)) = false ∧ (x == ("__classdict__" : Str)) = false := by
  unfold isDb at h
  simp only [Bool.or_eq_false_iff, decide_eq_false_iff_not] at h
  exact ⟨beq_eq_false_iff_ne.mpr h.1, beq_eq_false_iff_ne.mpr h.2⟩
theorem Ctx.gl (c : Ctx G S C Wx ea k X) {x : Str} (h : glB S.sc x = true) : Gl X x ∧ (x == ("__debug__" : Str)) = false ∧ x ≠ "__name__" := by
  unfold glB at h
  simp only [Bool.and_eq_true, decide_eq_true_eq, Bool.not_eq_true'] at h
  obtain ⟨⟨h1, h2⟩, h3⟩ := h
  refine ⟨?_, (isDb_no h2).1, h3⟩
  show X.env.scope.names.lookup x = some .globalImplicit
  rw [c.sc]
  exact h1
theorem star_cons {x : Expr} {rest : List Expr} {env : Env} (h : noStar x = true) : starEach (x :: rest) env = (false, eval x env) :: starEach rest env := by
  cases x <;> first | rfl | cases h
theorem star_any {es : CEs} : ∀ {xs : List Expr} {env : Env} {pos : Pos}, chkEs G S es xs = true → (backTo pos (starEach xs env)).any (·.1) = false := by
  intro xs
  induction xs generalizing es with
  | nil => intro env pos _; rfl
  | cons x r ih =>
    intro env pos h
    cases es with
    | nil => simp [chkEs] at h
    | cons a es =>
      simp only [chkEs, Bool.and_eq_true] at h
      rw [star_cons h.1.1]
      show (false || (backTo pos (starEach r env)).any (·.1)) = false
      rw [Bool.false_or]
      exact ih h.2
theorem PE.by {e : Expr} {t t' : TE} (h : PE X e t) (i : ∀ σ H Q, t' σ H Q → t σ H Q) : PE X e t' := ⟨fun pins s σ H Q I q => h.run pins s σ H Q I (i σ H Q q)⟩
theorem PT.by {e : Expr} {t t' : TT} (h : PT X e t) (i : ∀ σ H Q, t' σ H Q → t σ H Q) : PT X e t' := ⟨fun pins s σ H Q I q => h.run pins s σ H Q I (i σ H Q q)⟩
theorem PW.by {e : Expr} {t t' : TT} (h : PW X e t) (i : ∀ σ H Q, t' σ H Q → t σ H Q) : PW X e t' := ⟨fun wh pins s σ H Q I q => h.run wh pins s σ H Q I (i σ H Q q)⟩
theorem PA.by {e : List Expr} {t t' : TA} (h : PA X e t) (i : ∀ σ H Q, t' σ H Q → t σ H Q) : PA X e t' := ⟨fun p pins s σ H Q I q => h.run p pins s σ H Q I (i σ H Q q)⟩
end
end Pv
end
section
set_option maxRecDepth 100000
set_option maxHeartbeats 4000000
namespace Pv
open PySem PySem.Spec PyProof.Rows L2
section
variable {G : GC} {S : SX} {C : Cl} {Wx : WX} {ea : Nat → Addr} {k : Nat} {X : Cx}
theorem Got.any {K : PySem.W.Frag} {fr : Bool} {W W' : Wd} {H H' : Hp} {s' : Sto} {d : D} {v : V} (g : Got K true W H W' s' H' d v) : Got K fr W H W' s' H' d v :=
  ⟨g.pres, g.st, g.rep, fun _ => g.own rfl⟩
theorem Got.weak {K : PySem.W.Frag} {fr : Bool} {W W' : Wd} {H H' : Hp} {s' : Sto} {d : D} {v : V} (g : Got K fr W H W' s' H' d v) : Got K false W H W' s' H' d v :=
  ⟨g.pres, g.st, g.rep, fun e => nomatch e⟩
theorem e_var {i : Nat} {x : Str} {pos : Pos} (c : Ctx G S C Wx ea k X) (hi : S.N[i]? = some x) (hv : visB S.sc x = true) (hd : isDb x = false) : PE X (.Name x pos) (tE C X.K Wx ea false (.var i)) := by
  refine PE.by (pe_var (i := i) (by rw [c.N]; exact hi) (by rw [c.sc]; exact vis_of hv) (isDb_no hd).1 (isDb_no hd).2) fun σ H Q h => ?_
  obtain ⟨W, e, s, R, En, h⟩ := h
  simp only [evE] at h
  split at h
  · rename_i d hd
    obtain ⟨v, e1, r⟩ := En.2 i d hd
    exact ⟨v, e1, h W H v (Got.old R r)⟩
  · exact h.elim
theorem e_lit {d : D} {kk : Const} {n : Nat} {pos : Pos} (hl : litB d kk = true) : PE X (.Constant kk n pos) (tE C X.K Wx ea false (.lit d)) := by
  have go : ∀ v : V, (∀ W H, Rep X.K W H d v) → PE X (.Constant kk n pos) (tC v) → PE X (.Constant kk n pos) (tE C X.K Wx ea false (.lit d)) := fun v hr hp => PE.by hp fun σ H Q h => by
    obtain ⟨W, e, s, R, En, h⟩ := h
    exact h W H v (Got.old R (hr W H))
  unfold litB at hl
  split at hl
  · exact go .non (fun _ _ => rfl) pe_non
  · rename_i a b
    have : a = b := eq_of_beq hl
    subst this
    exact go (.bl a) (fun _ _ => rfl) pe_bl
  · have := of_decide_eq_true hl
    subst this
    exact go (.int _) (fun _ _ => rfl) pe_int
  · have := of_decide_eq_true hl
    subst this
    exact go (.str _) (fun _ _ => rfl) pe_str
  · cases hl
theorem e_glo {x : Str} {d : D} {pos : Pos} (c : Ctx G S C Wx ea k X) (hg : glB S.sc x = true) (hc : consB G x d = true) : PE X (.Name x pos) (tE C X.K Wx ea false (.glo x d)) := by
  obtain ⟨u, v, hm, r, hr⟩ := c.cons x d hc
  refine PE.by (pe_glob (c.gl hg).1 hm r (c.gl hg).2.1) fun σ H Q h => ?_
  obtain ⟨W, e, s, R, En, h⟩ := h
  exact h W H v (Got.old R (hr W H))
theorem opB_eq {o : Op} {op : Operator} (h : opB o op = true) : op = opOf o := by cases o <;> cases op <;> first | rfl | cases h
theorem cpB_eq {o : Cp} {op : CmpOp} (h : cpB o op = true) : op = cpOf o := by cases o <;> cases op <;> first | rfl | cases h
theorem t_bin {o : Op} {a b : CE} {fr : Bool} {σ : L2.St} {H : Hp} {Q : VK} (h : tE C X.K Wx ea fr (.bin o a b) σ H Q) : tOp (rBin X.K o) (tE C X.K Wx ea false a) (tE C X.K Wx ea false b) σ H Q := by
  obtain ⟨W, e, s, R, En, h⟩ := h
  simp only [evE] at h
  refine ⟨W, e, s, R, En, (Sat.bind GE.gt GE.gt h).imp fun x H1 ⟨W1, s1, d1, g1, h1⟩ => ?_⟩
  refine ⟨W1, e, s1, g1.st, En.pres g1.pres, (Sat.bind GE.gt GE.gt h1).imp fun y H2 ⟨W2, s2, d2, g2, h2⟩ => ?_⟩
  obtain ⟨d, e1, h3⟩ := h2.lift
  exact ⟨W2, s2, d1, d2, d, g2.st, Rep.pres g2.pres g1.rep, g2.rep, e1, fun v H' g => h3 W2 H' v g.any⟩
theorem e_bin {o : Op} {a b : CE} {l r : Expr} {op : Operator} {pos : Pos} {fr : Bool} (ho : opB o op = true) (ha : PE X l (tE C X.K Wx ea false a)) (hb : PE X r (tE C X.K Wx ea false b)) : PE X (.BinOp l op r pos) (tE C X.K Wx ea fr (.bin o a b)) := by
  rw [opB_eq ho]
  exact PE.by (pe_op (op_bin o) ha hb) fun σ H Q h => t_bin h
theorem e_neg {a : CE} {l : Expr} {pos : Pos} (ha : PE X l (tE C X.K Wx ea false a)) : PE X (.UnaryOp .USub l pos) (tE C X.K Wx ea false (.neg a)) := by
  refine PE.by (pe_un un_negD ha) fun σ H Q h => ?_
  obtain ⟨W, e, s, R, En, h⟩ := h
  simp only [evE] at h
  refine ⟨W, e, s, R, En, (Sat.bind GE.gt GE.gt h).imp fun x H1 ⟨W1, s1, d1, g1, h1⟩ => ?_⟩
  obtain ⟨d, e1, h3⟩ := h1.lift
  exact ⟨W1, s1, d1, d, g1.st, g1.rep, e1, fun v H' g => h3 W1 H' v g⟩
theorem t_cmp {o : Cp} {a b : CE} {σ : L2.St} {H : Hp} {Q : VK} (h : tE C X.K Wx ea false (.cmp o a b) σ H Q) : tOp (rCmp X.K o) (tE C X.K Wx ea false a) (tE C X.K Wx ea false b) σ H Q := by
  obtain ⟨W, e, s, R, En, h⟩ := h
  simp only [evE] at h
  refine ⟨W, e, s, R, En, (Sat.bind GE.gt GE.gt h).imp fun x H1 ⟨W1, s1, d1, g1, h1⟩ => ?_⟩
  refine ⟨W1, e, s1, g1.st, En.pres g1.pres, (Sat.bind GE.gt GE.gt h1).imp fun y H2 ⟨W2, s2, d2, g2, h2⟩ => ?_⟩
  obtain ⟨d, e1, h3⟩ := h2.lift
  exact ⟨W2, s2, d1, d2, d, g2.st, Rep.pres g2.pres g1.rep, g2.rep, e1, fun v H' g => h3 W2 H' v g.weak⟩
/-- a value that must be a truth value, as a test -/
theorem t_test {c : CE} {σ : L2.St} {H : Hp} {Q : Bool → Hp → Prop} (h : tT C X.K Wx ea c σ H Q) : tE C X.K Wx ea false c σ H fun x H1 => ∃ k, x = .bl k ∧ Q k H1 := by
  obtain ⟨W, e, s, R, En, h⟩ := h
  refine ⟨W, e, s, R, En, (Sat.bind GE.gt GB.gt h).imp fun x H1 ⟨W1, s1, d1, g1, h1⟩ => ?_⟩
  obtain ⟨b, e1, h3⟩ := h1.truth
  subst e1
  exact ⟨b, g1.rep, h3 W1 H1 b ⟨Pres.refl, g1.st, rfl⟩⟩
theorem e_cmp {o : Cp} {a b : CE} {l r : Expr} {op : CmpOp} {pos : Pos} (c : Ctx G S C Wx ea k X) (ho : cpB o op = true) (hm : behindInMarks op r = false) (ha : PE X l (tE C X.K Wx ea false a)) (hb : PE X r (tE C X.K Wx ea false b)) :
    PE X (.Compare l [op] [r] pos) (tE C X.K Wx ea false (.cmp o a b)) ∧ PT X (.Compare l [op] [r] pos) (tT C X.K Wx ea (.cmp o a b)) := by
  have e := cpB_eq ho
  subst e
  refine ⟨PE.by (pe_cmpR (op_cmp c.room o) ha hb hm) fun σ H Q h => t_cmp h, PT.by (pt_cmpR (op_cmp c.room o) ha hb hm) fun σ H Q h => ?_⟩
  exact t_cmp (t_test h)
theorem t_chn {o p : Cp} {a b d : CE} {σ : L2.St} {H : Hp} {Q : VK} (h : tE C X.K Wx ea false (.chn o p a b d) σ H Q) : tChain (rCmp X.K o) (rCmp X.K p) (tE C X.K Wx ea false a) (tE C X.K Wx ea false b) (tE C X.K Wx ea false d) σ H Q := by
  obtain ⟨W, e, s, R, En, h⟩ := h
  simp only [evE] at h
  refine ⟨W, e, s, R, En, (Sat.bind GE.gt GE.gt h).imp fun x H1 ⟨W1, s1, d1, g1, h1⟩ => ?_⟩
  refine ⟨W1, e, s1, g1.st, En.pres g1.pres, (Sat.bind GE.gt GE.gt h1).imp fun y H2 ⟨W2, s2, d2, g2, h2⟩ => ?_⟩
  cases q : cmpD o (fz 0 s2 d1) (fz 0 s2 d2) with
  | none => rw [q] at h2; exact h2.elim
  | some z =>
    rw [q] at h2
    refine ⟨W2, s2, d1, d2, z, g2.st, Rep.pres g2.pres g1.rep, g2.rep, q, fun v H3 g3 => ?_⟩
    have h3 : Sat X.K Wx ea σ (GE X.K false) W2 H2 ((truth z s2).bind fun k s => if k = true then (evE C d e s).bind fun u s => lift (cmpD p (fz 0 s d2) (fz 0 s u)) s else .ok (.bl false) s) Q := h2
    have h4 := h3.pres GE.gt g3.pres
    obtain ⟨b, e1, h5⟩ := (Sat.bind (G1 := GB X.K) GB.gt GE.gt h4).truth
    subst e1
    refine ⟨b, g3.rep, ?_⟩
    obtain ⟨W4, s4, b', ⟨p4, r4, e4⟩, h6⟩ := h5 W2 H3 b ⟨Pres.refl, g3.st, rfl⟩
    subst e4
    cases b' with
    | false =>
      simp only [Bool.false_eq_true, if_false] at h6 ⊢
      exact h6 W4 H3 (.bl false) (Got.val r4 rfl rfl)
    | true =>
      simp only [if_true] at h6 ⊢
      refine ⟨W4, e, s4, r4, (En.pres g1.pres).pres (g2.pres.trans (g3.pres.trans p4)), (Sat.bind GE.gt GE.gt h6).imp fun u H5 ⟨W5, s5, d5, g5, h7⟩ => ?_⟩
      obtain ⟨z', e7, h8⟩ := h7.lift
      exact ⟨W5, s5, d2, d5, z', g5.st, Rep.pres (g3.pres.trans (p4.trans g5.pres)) g2.rep, g5.rep, e7, fun v H' g => h8 W5 H' v g.weak⟩
theorem e_chn {o p : Cp} {a b d : CE} {l r t : Expr} {op op2 : CmpOp} {pos : Pos} (c : Ctx G S C Wx ea k X) (ho : cpB o op = true) (ho2 : cpB p op2 = true) (hm : lastMarks [op, op2] [r, t] = false)
    (ha : PE X l (tE C X.K Wx ea false a)) (hb : PE X r (tE C X.K Wx ea false b)) (hd : PE X t (tE C X.K Wx ea false d)) :
    PE X (.Compare l [op, op2] [r, t] pos) (tE C X.K Wx ea false (.chn o p a b d)) ∧ PT X (.Compare l [op, op2] [r, t] pos) (tT C X.K Wx ea (.chn o p a b d)) := by
  have e := cpB_eq ho
  have e2 := cpB_eq ho2
  subst e e2
  refine ⟨PE.by (pe_chain (op_cmp c.room o) (op_cmp c.room p) ha hb hd hm) fun σ H Q h => t_chn h, PT.by (pt_chain (op_cmp c.room o) (op_cmp c.room p) ha hb hd hm) fun σ H Q h => ?_⟩
  exact t_chn (t_test h)
/-! ### and, or, not -/
theorem t_and {a b : CE} {σ : L2.St} {H : Hp} {Q : VK} (h : tE C X.K Wx ea false (.and a b) σ H Q) : tAndV (tE C X.K Wx ea false a) (tE C X.K Wx ea false b) σ H Q := by
  obtain ⟨W, e, s, R, En, h⟩ := h
  simp only [evE] at h
  refine ⟨W, e, s, R, En, (Sat.bind GE.gt GE.gt h).imp fun x H1 ⟨W1, s1, d1, g1, h1⟩ => ?_⟩
  obtain ⟨b1, e1, h2⟩ := (Sat.bind (G1 := GB X.K) GB.gt GE.gt h1).truth
  subst e1
  obtain ⟨W4, s4, b', ⟨p4, r4, e4⟩, h6⟩ := h2 W1 H1 b1 ⟨Pres.refl, g1.st, rfl⟩
  subst e4
  refine ⟨b', g1.rep, ?_⟩
  cases b' with
  | false =>
    simp only [Bool.false_eq_true, if_false] at h6 ⊢
    exact h6 W4 H1 (.bl false) (Got.val r4 rfl rfl)
  | true =>
    simp only [if_true] at h6 ⊢
    exact ⟨W4, e, s4, r4, En.pres (g1.pres.trans p4), h6⟩
theorem t_or {a b : CE} {σ : L2.St} {H : Hp} {Q : VK} (h : tE C X.K Wx ea false (.or a b) σ H Q) : tOrV (tE C X.K Wx ea false a) (tE C X.K Wx ea false b) σ H Q := by
  obtain ⟨W, e, s, R, En, h⟩ := h
  simp only [evE] at h
  refine ⟨W, e, s, R, En, (Sat.bind GE.gt GE.gt h).imp fun x H1 ⟨W1, s1, d1, g1, h1⟩ => ?_⟩
  obtain ⟨b1, e1, h2⟩ := (Sat.bind (G1 := GB X.K) GB.gt GE.gt h1).truth
  subst e1
  obtain ⟨W4, s4, b', ⟨p4, r4, e4⟩, h6⟩ := h2 W1 H1 b1 ⟨Pres.refl, g1.st, rfl⟩
  subst e4
  refine ⟨b', g1.rep, ?_⟩
  cases b' with
  | true =>
    simp only [if_true] at h6 ⊢
    exact h6 W4 H1 (.bl true) (Got.val r4 rfl rfl)
  | false =>
    simp only [Bool.false_eq_true, if_false] at h6 ⊢
    exact ⟨W4, e, s4, r4, En.pres (g1.pres.trans p4), h6⟩
theorem e_not {a : CE} {l : Expr} {pos : Pos} (ha : PE X l (tE C X.K Wx ea false a)) : PE X (.UnaryOp .Not l pos) (tE C X.K Wx ea false (.not a)) := by
  refine PE.by (pe_not ha) fun σ H Q h => ?_
  obtain ⟨W, e, s, R, En, h⟩ := h
  simp only [evE] at h
  refine ⟨W, e, s, R, En, (Sat.bind GE.gt GE.gt h).imp fun x H1 ⟨W1, s1, d1, g1, h1⟩ => ?_⟩
  obtain ⟨b1, e1, h2⟩ := (Sat.bind (G1 := GB X.K) GB.gt GE.gt h1).truth
  subst e1
  obtain ⟨W4, s4, b', ⟨p4, r4, e4⟩, h6⟩ := h2 W1 H1 b1 ⟨Pres.refl, g1.st, rfl⟩
  subst e4
  exact ⟨b', g1.rep, h6 W4 H1 _ (Got.val r4 rfl rfl)⟩
/-- tests: the first one's outcome, then the rest's -/
theorem t_seq {a : CE} {f : Bool → Sto → Out Bool} {σ : L2.St} {H : Hp} {W : Wd} {e : En} {s : Sto} {Q : Bool → Hp → Prop} (R : RelSt X.K W s H) (En : RelEn X.K W H e σ)
    (h : Sat X.K Wx ea σ (GB X.K) W H ((evE C a e s).bind fun x s => (truth x s).bind f) Q) :
    tT C X.K Wx ea a σ H fun b H1 => ∃ W1 s1, RelSt X.K W1 s1 H1 ∧ RelEn X.K W1 H1 e σ ∧ Sat X.K Wx ea σ (GB X.K) W1 H1 (f b s1) Q := by
  have h' : Sat X.K Wx ea σ (GB X.K) W H (((evE C a e s).bind truth).bind f) Q := by
    cases q : evE C a e s with
    | ok x s1 => rw [q] at h; exact h
    | exc _ _ _ => rw [q] at h; exact h
    | bad => rw [q] at h; exact h
  refine ⟨W, e, s, R, En, (Sat.bind GB.gt GB.gt h').imp fun b H1 ⟨W1, s1, b', ⟨p, r, eb⟩, h1⟩ => ?_⟩
  subst eb
  exact ⟨W1, s1, r, En.pres p, h1⟩
theorem bind_assoc {α β γ : Type} (x : Out α) (f : α → Sto → Out β) (g : β → Sto → Out γ) : (x.bind f).bind g = x.bind fun a s => (f a s).bind g := by cases x <;> rfl
theorem t_andT {a b : CE} {σ : L2.St} {H : Hp} {Q : Bool → Hp → Prop} (h : tT C X.K Wx ea (.and a b) σ H Q) : tAnd (tT C X.K Wx ea a) (tT C X.K Wx ea b) σ H Q := by
  obtain ⟨W, e, s, R, En, h⟩ := h
  simp only [evE, bind_assoc] at h
  obtain ⟨W0, e0, s0, R0, En0, h0⟩ := t_seq R En h
  refine ⟨W0, e0, s0, R0, En0, h0.imp fun c H1 ⟨W1, s1, r1, En1, h1⟩ => ?_⟩
  cases c with
  | true =>
    simp only [if_true] at h1 ⊢
    exact ⟨W1, e, s1, r1, En1, h1⟩
  | false =>
    simp only [Bool.false_eq_true, if_false] at h1 ⊢
    exact h1 W1 H1 false ⟨Pres.refl, r1, rfl⟩
theorem t_orT {a b : CE} {σ : L2.St} {H : Hp} {Q : Bool → Hp → Prop} (h : tT C X.K Wx ea (.or a b) σ H Q) : tOr (tT C X.K Wx ea a) (tT C X.K Wx ea b) σ H Q := by
  obtain ⟨W, e, s, R, En, h⟩ := h
  simp only [evE, bind_assoc] at h
  obtain ⟨W0, e0, s0, R0, En0, h0⟩ := t_seq R En h
  refine ⟨W0, e0, s0, R0, En0, h0.imp fun c H1 ⟨W1, s1, r1, En1, h1⟩ => ?_⟩
  cases c with
  | false =>
    simp only [Bool.false_eq_true, if_false] at h1 ⊢
    exact ⟨W1, e, s1, r1, En1, h1⟩
  | true =>
    simp only [if_true] at h1 ⊢
    exact h1 W1 H1 true ⟨Pres.refl, r1, rfl⟩
theorem t_notT {a : CE} {σ : L2.St} {H : Hp} {Q : Bool → Hp → Prop} (h : tT C X.K Wx ea (.not a) σ H Q) : tNot (tT C X.K Wx ea a) σ H Q := by
  obtain ⟨W, e, s, R, En, h⟩ := h
  simp only [evE, bind_assoc] at h
  obtain ⟨W0, e0, s0, R0, En0, h0⟩ := t_seq R En h
  refine ⟨W0, e0, s0, R0, En0, h0.imp fun c H1 ⟨W1, s1, r1, En1, h1⟩ => ?_⟩
  exact h1 W1 H1 (!c) ⟨Pres.refl, r1, rfl⟩
theorem t_ite {t a b : CE} {fr : Bool} {σ : L2.St} {H : Hp} {Q : VK} (h : tE C X.K Wx ea fr (.ite t a b) σ H Q) : tIf (tT C X.K Wx ea t) (tE C X.K Wx ea fr a) (tE C X.K Wx ea fr b) σ H Q := by
  obtain ⟨W, e, s, R, En, h⟩ := h
  simp only [evE] at h
  have h' : Sat X.K Wx ea σ (GE X.K fr) W H (((evE C t e s).bind truth).bind fun k s => if k = true then evE C a e s else evE C b e s) Q := by
    rw [bind_assoc]; exact h
  refine ⟨W, e, s, R, En, (Sat.bind GB.gt GE.gt h').imp fun c H1 ⟨W1, s1, b', ⟨p, r, eb⟩, h1⟩ => ?_⟩
  subst eb
  cases b' with
  | true =>
    simp only [if_true] at h1 ⊢
    exact ⟨W1, e, s1, r, En.pres p, h1⟩
  | false =>
    simp only [Bool.false_eq_true, if_false] at h1 ⊢
    exact ⟨W1, e, s1, r, En.pres p, h1⟩
/-! ### displays, items, parts -/
theorem a_nil : PA X [] (tA C X.K Wx ea .nil) := PA.by pa_nil fun σ H Q h => by
  obtain ⟨W, e, s, R, En, h⟩ := h
  exact h W H [] ⟨Pres.refl, R, rfl⟩
theorem a_cons {a : CE} {r : CEs} {x : Expr} {rest : List Expr} (hs : noStar x = true) (ha : PE X x (tE C X.K Wx ea false a)) (hr : PA X rest (tA C X.K Wx ea r)) : PA X (x :: rest) (tA C X.K Wx ea (.cons a r)) := by
  refine PA.by (pa_cons ha hr (star_cons hs)) fun σ H Q h => ?_
  obtain ⟨W, e, s, R, En, h⟩ := h
  simp only [evEs] at h
  refine ⟨W, e, s, R, En, (Sat.bind GE.gt GL.gt h).imp fun x H1 ⟨W1, s1, d1, g1, h1⟩ => ?_⟩
  refine ⟨W1, e, s1, g1.st, En.pres g1.pres, (Sat.bind GL.gt GL.gt h1).imp fun xs H2 ⟨W2, s2, ds, ⟨p2, r2, q2⟩, h2⟩ => ?_⟩
  exact h2 W2 H2 (x :: xs) ⟨Pres.refl, r2, ⟨x, xs, rfl, Rep.pres p2 g1.rep, q2⟩⟩
theorem evEs_len {c : Cl} : ∀ {es : CEs} {e : En} {s s' : Sto} {xs : List Expr} {ds : List D}, chkEs G S es xs = true → evEs c es e s = .ok ds s' → ds.length = xs.length
  | .nil, e, s, s', xs, ds, h, q => by
    simp only [chkEs, List.isEmpty_iff] at h
    simp only [evEs] at q
    cases q
    subst h
    rfl
  | .cons a r, e, s, s', xs, ds, h, q => by
    cases xs with
    | nil => simp [chkEs] at h
    | cons x rest =>
      simp only [chkEs, Bool.and_eq_true] at h
      simp only [evEs] at q
      cases q1 : evE c a e s with
      | ok d s1 =>
        rw [q1] at q
        simp only [Out.bind] at q
        cases q2 : evEs c r e s1 with
        | ok es2 s2 =>
          rw [q2] at q
          cases q
          rw [List.length_cons, List.length_cons, evEs_len h.2 q2]
        | exc _ _ _ => rw [q2] at q; cases q
        | bad => rw [q2] at q; cases q
      | exc _ _ _ => rw [q1] at q; cases q
      | bad => rw [q1] at q; cases q
/-- the arguments, and how many there are -/
theorem t_args {β γ : Type} {G2 : Rl β γ} (T : GT X.K G2) {es : CEs} {xs : List Expr} {f : List D → Sto → Out β} {σ : L2.St} {H : Hp} {W : Wd} {e : En} {s : Sto} {Q : γ → Hp → Prop} (hx : chkEs G S es xs = true) (R : RelSt X.K W s H) (En : RelEn X.K W H e σ)
    (h : Sat X.K Wx ea σ G2 W H ((evEs C es e s).bind f) Q) :
    tA C X.K Wx ea es σ H fun vs H1 => ∃ W1 s1 ds, Pres W H W1 H1 ∧ RelSt X.K W1 s1 H1 ∧ Reps X.K W1 H1 ds vs ∧ vs.length = xs.length ∧ Sat X.K Wx ea σ G2 W1 H1 (f ds s1) Q := by
  refine ⟨W, e, s, R, En, ?_⟩
  cases q : evEs C es e s with
  | bad => rw [q] at h; exact h.elim
  | exc _ _ _ => rw [q] at h; exact h
  | ok ds s1 =>
    rw [q] at h
    exact fun W1 H1 vs g => ⟨W1, s1, ds, g.1, g.2.1, g.2.2, by rw [← g.2.2.length, evEs_len hx q], h.pres T g.1⟩
theorem line1000 {n : Nat} (h : n ≤ 1000) : n ≤ sizeLine := Nat.le_of_lt (small1000 h)
theorem e_tup {es : CEs} {xs : List Expr} {n : Nat} {pos : Pos} (hx : chkEs G S es xs = true) (hl : xs.length ≤ 1000) (ha : PA X xs (tA C X.K Wx ea es)) : PE X (.Tuple xs n pos) (tE C X.K Wx ea false (.tup es)) := by
  refine PE.by (pe_tup ha) fun σ H Q h => ?_
  obtain ⟨W, e, s, R, En, h⟩ := h
  simp only [evE] at h
  obtain ⟨W0, e0, s0, R0, En0, h0⟩ := t_args GE.gt hx R En h
  refine ⟨W0, e0, s0, R0, En0, h0.imp fun vs H1 ⟨W1, s1, ds, p1, r1, q1, l1, h1⟩ => ⟨by rw [l1]; exact line1000 hl, fun p np => h1 W1 _ _ (Got.tupNew r1 q1 np)⟩⟩
theorem e_lst {es : CEs} {xs : List Expr} {pos : Pos} {fr : Bool} (hx : chkEs G S es xs = true) (hl : xs.length ≤ 1000) (ha : PA X xs (tA C X.K Wx ea es)) : PE X (.List xs pos) (tE C X.K Wx ea fr (.lst es)) := by
  refine PE.by (pe_lst ha) fun σ H Q h => ?_
  obtain ⟨W, e, s, R, En, h⟩ := h
  simp only [evE] at h
  obtain ⟨W0, e0, s0, R0, En0, h0⟩ := t_args GE.gt hx R En h
  refine ⟨W0, e0, s0, R0, En0, h0.imp fun vs H1 ⟨W1, s1, ds, p1, r1, q1, l1, h1⟩ => ⟨by rw [l1]; exact line1000 hl, fun p np => h1 W1 _ _ (Got.lstNew r1 q1 np)⟩⟩
theorem plainIx_of {r : Expr} (h : noSlice r = true) : PlainIx r := by
  intro o i
  cases r <;> first | rfl | cases h
theorem e_idx {a i : CE} {l r : Expr} {pos : Pos} (hn : noSlice r = true) (ha : PE X l (tE C X.K Wx ea false a)) (hi : PE X r (tE C X.K Wx ea false i)) : PE X (.Subscript l r pos) (tE C X.K Wx ea false (.idx a i)) := by
  refine PE.by (pe_ix ix_idx ha hi (plainIx_of hn)) fun σ H Q h => ?_
  obtain ⟨W, e, s, R, En, h⟩ := h
  simp only [evE] at h
  refine ⟨W, e, s, R, En, (Sat.bind GE.gt GE.gt h).imp fun x H1 ⟨W1, s1, d1, g1, h1⟩ => ?_⟩
  refine ⟨W1, e, s1, g1.st, En.pres g1.pres, (Sat.bind GE.gt GE.gt h1).imp fun y H2 ⟨W2, s2, d2, g2, h2⟩ => ?_⟩
  obtain ⟨d, e1, h3⟩ := h2.lift
  exact ⟨W2, s2, d1, d2, d, g2.st, Rep.pres g2.pres g1.rep, g2.rep, e1, fun v H' g => h3 W2 H' v g⟩
theorem e_slc {a : CE} {lo hi : CEs} {l : Expr} {lo' hi' : Option Expr} {p2 pos : Pos} {fr : Bool} (ha : PE X l (tE C X.K Wx ea false a))
    (hl : (lo' = none ∧ lo = .nil) ∨ (∃ x c, lo' = some x ∧ lo = .cons c .nil ∧ PE X x (tE C X.K Wx ea false c))) (hh : (hi' = none ∧ hi = .nil) ∨ (∃ x c, hi' = some x ∧ hi = .cons c .nil ∧ PE X x (tE C X.K Wx ea false c))) :
    PE X (.Subscript l (.Slice lo' hi' none p2) pos) (tE C X.K Wx ea fr (.slc a lo hi)) := by
  have part : ∀ (o : Option Expr) (cs : CEs), ((o = none ∧ cs = .nil) ∨ (∃ x c, o = some x ∧ cs = .cons c .nil ∧ PE X x (tE C X.K Wx ea false c))) →
      ∃ t, PO X o t ∧ ∀ (σ : L2.St) (H : Hp) (W : Wd) (e : En) (s : Sto) (f : Option Int → Sto → Out D) (Q : VK) (Q' : Option Int → Hp → Prop), RelSt X.K W s H → RelEn X.K W H e σ → Sat X.K Wx ea σ (GE X.K fr) W H ((evEs C cs e s).bind fun l s => match optI l with
          | some l => f l s
          | none => .bad) Q →
        (∀ W1 H1 s1 i, Pres W H W1 H1 → RelSt X.K W1 s1 H1 → Sat X.K Wx ea σ (GE X.K fr) W1 H1 (f i s1) Q → Q' i H1) → t σ H Q' := by
    intro o cs h
    rcases h with ⟨rfl, rfl⟩ | ⟨x, c, rfl, rfl, hp⟩
    · exact ⟨_, po_none, fun σ H W e s f Q Q' R En h hq => hq W H s none Pres.refl R h⟩
    · refine ⟨_, po_some hp, fun σ H W e s f Q Q' R En h hq => ?_⟩
      simp only [evEs, bind_assoc] at h
      refine ⟨W, e, s, R, En, (Sat.bind GE.gt GE.gt h).imp fun x H1 ⟨W1, s1, d1, g1, h1⟩ => ?_⟩
      simp only [Out.bind] at h1
      cases d1 with
      | int i => exact ⟨i, g1.rep, hq W1 H1 s1 (some i) g1.pres g1.st h1⟩
      | _ => exact h1.elim
  obtain ⟨tl, pl, hl⟩ := part lo' lo hl
  obtain ⟨th, ph, hh⟩ := part hi' hi hh
  refine PE.by (pe_slice sl_slc ha pl ph) fun σ H Q h => ?_
  obtain ⟨W, e, s, R, En, h⟩ := h
  simp only [evE] at h
  refine ⟨W, e, s, R, En, (Sat.bind GE.gt GE.gt h).imp fun x H1 ⟨W1, s1, d1, g1, h1⟩ => ?_⟩
  refine hl σ H1 W1 e s1 _ Q _ g1.st (En.pres g1.pres) h1 fun W2 H2 s2 i p2 r2 h2 => ?_
  refine hh σ H2 W2 e s2 _ Q _ r2 (En.pres (g1.pres.trans p2)) h2 fun W3 H3 s3 j p3 r3 h3 => ?_
  obtain ⟨d, e4, h4⟩ := h3.lift
  exact ⟨W3, s3, d1, d, r3, Rep.pres (p2.trans p3) g1.rep, e4, fun v H' g => h4 W3 H' v g.any⟩
theorem e_slr {a : CE} {l : Expr} {n : Nat} {p1 p2 p3 pos : Pos} {fr : Bool} (ha : PE X l (tE C X.K Wx ea false a)) : PE X (.Subscript l (.Slice none none (some (.UnaryOp .USub (.Constant (.int 1) n p1) p2)) p3) pos) (tE C X.K Wx ea fr (.slr a)) := by
  refine PE.by (pe_revA ha) fun σ H Q h => ?_
  obtain ⟨W, e, s, R, En, h⟩ := h
  simp only [evE] at h
  refine ⟨W, e, s, R, En, (Sat.bind GE.gt GE.gt h).imp fun x H1 ⟨W1, s1, d1, g1, h1⟩ => ?_⟩
  obtain ⟨d, e1, h2⟩ := h1.lift
  unfold revD at e1
  split at e1
  · rename_i xs q
    cases e1
    obtain ⟨p, vs, e2, t, r⟩ := rd_tup g1.st g1.rep q
    exact ⟨p, vs, e2, .inr ⟨t, fun q nq => h2 W1 _ _ (Got.tupNew g1.st r.reverse nq)⟩⟩
  · rename_i xs q
    cases e1
    obtain ⟨p, vs, e2, t, r⟩ := rd_lst g1.st g1.rep q
    exact ⟨p, vs, e2, .inl ⟨t, fun q nq => h2 W1 _ _ (Got.lstNew g1.st r.reverse nq)⟩⟩
  · cases e1
/-! ### calls -/
theorem pe_callS0 {CX : CXT} {j : Nat} {f : Addr} {fd : FuncData} {ps : List Str} {sp : Sp} {E : L2.St → XK} {x : Str} {p pos : Pos} (F : FnOk X.prog X.w X.K X.mg X.base CX j f fd ps sp) (hr : Room j X.A) (hg : Gl X x) (hm : X.mg x = some (.ref f)) (hk : PySem.W.keepIn X.K (.ref f) = true) (hb : Binds X.K fd ps []) (hx : ∀ σ, PassesAt CX X σ (E σ))
    (hdb : (x == ("__debug__" : Str)) = false) : PE X (.Call (.Name x p) [] [] pos) (tCallS sp E tNil) := by
  refine ⟨fun pins s σ H Q I h => ?_⟩
  refine wpAny_Call_Name_kw (ld_glob I hg hm ?_ hdb)
  exact PySem.W.callWith_K0 I.kIn hk (run_fnS (us := []) F hr hb (hx σ) I .nil h)
theorem e_call {f : Nat} {es : CEs} {x : Str} {xs : List Expr} {p pos : Pos} {fr : Bool} (c : Ctx G S C Wx ea k X) (hf : G.fns[f]? = some x) (hg : glB S.sc x = true) (hx : chkEs G S es xs = true) (hr : fr = true → frOf G f = true) (ha : PA X xs (tA C X.K Wx ea es)) :
    PE X (.Call (.Name x p) xs [] pos) (tE C X.K Wx ea fr (.call f es)) := by
  obtain ⟨fa, fd, ps, hm, hk, hb, F, hlen, _⟩ := c.fns f x hf
  have fin : ∀ (W1 : Wd) (H1 : Hp) (s1 : Sto) (ds : List D) (vs : List V) (σ : L2.St) (Q : VK), RelSt X.K W1 s1 H1 → Reps X.K W1 H1 ds vs → Sat X.K Wx ea σ (GE X.K fr) W1 H1 (C.fn f ds s1) Q → (spD C X.K ea (frOf G f) f ps.length) vs H1 Q (WE Wx σ) := fun W1 H1 s1 ds vs σ Q r1 q1 h1 => by
    have hl : ds.length = ps.length := by
      by_cases z : ds.length = ps.length
      · exact z
      · rw [hlen ds s1 z] at h1; exact h1.elim
    refine ⟨W1, s1, ds, r1, q1, hl, ?_⟩
    cases q : C.fn f ds s1 with
    | ok d s2 =>
      rw [q] at h1
      exact fun H' v g => h1 W1 H' v ⟨g.pres, g.st, g.rep, fun z => g.own (hr z)⟩
    | exc kk v s2 =>
      rw [q] at h1
      exact ⟨h1.1, fun H' p2 r2 => h1.2 W1 H' p2 r2⟩
    | bad => rw [q] at h1; exact h1.elim
  cases xs with
  | nil =>
    refine PE.by (pe_callS0 F c.room (c.gl hg).1 hm hk hb (E := WE Wx) (fun σ => passAt c.tk σ) (c.gl hg).2.1) fun σ H Q h => ?_
    obtain ⟨W, e, s, R, En, h⟩ := h
    simp only [evE] at h
    cases es with
    | nil => exact fin W H s [] [] σ Q R rfl h
    | cons a r => simp [chkEs] at hx
  | cons y ys =>
    have hs : noStar y = true ∧ ∃ a r, es = .cons a r ∧ chkEs G S r ys = true := by
      cases es with
      | nil => simp [chkEs] at hx
      | cons a r => simp only [chkEs, Bool.and_eq_true] at hx; exact ⟨hx.1.1, a, r, rfl, hx.2⟩
    obtain ⟨hs, a0, r0, _, hx0⟩ := hs
    refine PE.by (pe_callS F c.room (c.gl hg).1 hm hk hb (E := WE Wx) (fun σ => passAt c.tk σ) ha (c.gl hg).2.1 (star_cons hs) (star_any hx0)) fun σ H Q h => ?_
    obtain ⟨W, e, s, R, En, h⟩ := h
    simp only [evE] at h
    obtain ⟨W0, e0, s0, R0, En0, h0⟩ := t_args GE.gt hx R En h
    exact ⟨W0, e0, s0, R0, En0, h0.imp fun vs H1 ⟨W1, s1, ds, p1, r1, q1, l1, h1⟩ => fin W1 H1 s1 ds vs σ Q r1 q1 h1⟩
theorem boot_bi (b : BI) (hb : b ≠ .gcd) (hb2 : b ≠ .comb) : bootBuiltins (biName b) = some (biVal b) := by
  cases b <;> first | exact absurd rfl hb | exact absurd rfl hb2 | decide +kernel
theorem e_bi {b : BI} {es : CEs} {x : Str} {y : Expr} {ys : List Expr} {p pos : Pos} {fr : Bool} (c : Ctx G S C Wx ea k X) (hn : x = biName b) (hg : glB S.sc x = true)
    (hm : biB G b x = true) (hx : chkEs G S es (y :: ys) = true) (hfr : fr = true → (match b with
      | .list => true
      | _ => false) = true) (ha : PA X (y :: ys) (tA C X.K Wx ea es)) :
    PE X (.Call (.Name x p) (y :: ys) [] pos) (tE C X.K Wx ea fr (.bi b es)) := by
  subst hn
  have hs : noStar y = true ∧ ∃ a r, es = .cons a r ∧ chkEs G S r ys = true := by
    cases es with
    | nil => simp [chkEs] at hx
    | cons a r => simp only [chkEs, Bool.and_eq_true] at hx; exact ⟨hx.1.1, a, r, rfl, hx.2⟩
  obtain ⟨hs, a0, r0, _, hx0⟩ := hs
  obtain ⟨gl, db, nm⟩ := c.gl hg
  have rd : ∀ σ H Q, tE C X.K Wx ea fr (.bi b es) σ H Q → tCB (rBi X.K b) (tA C X.K Wx ea es) σ H Q := fun σ H Q h => by
    obtain ⟨W, e, s, R, En, h⟩ := h
    simp only [evE] at h
    obtain ⟨W0, e0, s0, R0, En0, h0⟩ := t_args GE.gt hx R En h
    refine ⟨W0, e0, s0, R0, En0, h0.imp fun vs H1 ⟨W1, s1, ds, p1, r1, q1, l1, h1⟩ => ?_⟩
    obtain ⟨d, e1, h2⟩ := h1.lift
    refine ⟨W1, s1, ds.map (rd s1), d, r1, reps_rdv r1 q1, e1, fun v H' g => h2 W1 H' v ⟨g.pres, g.st, g.rep, fun z => ?_⟩⟩
    have := hfr z
    cases b <;> first | exact g.own rfl | cases this
  have hc := call_bi (X := X) c.calm b
  cases b with
  | gcd => exact PE.by (pe_callBfun hc gl (c.mods .gcd hm) ha db (star_cons hs) (star_any hx0)) rd
  | comb => exact PE.by (pe_callBfun hc gl (c.mods .comb hm) ha db (star_cons hs) (star_any hx0)) rd
  | int => exact PE.by (pe_callTy hc gl (c.free _ hm) (boot_bi .int (fun z => nomatch z) (fun z => nomatch z)) ha nm db (star_cons hs) (star_any hx0)) rd
  | tuple => exact PE.by (pe_callTy hc gl (c.free _ hm) (boot_bi .tuple (fun z => nomatch z) (fun z => nomatch z)) ha nm db (star_cons hs) (star_any hx0)) rd
  | list => exact PE.by (pe_callTy hc gl (c.free _ hm) (boot_bi .list (fun z => nomatch z) (fun z => nomatch z)) ha nm db (star_cons hs) (star_any hx0)) rd
  | len => exact PE.by (pe_callB hc gl (c.free _ hm) (boot_bi .len (fun z => nomatch z) (fun z => nomatch z)) ha nm db (star_cons hs) (star_any hx0)) rd
  | abs => exact PE.by (pe_callB hc gl (c.free _ hm) (boot_bi .abs (fun z => nomatch z) (fun z => nomatch z)) ha nm db (star_cons hs) (star_any hx0)) rd
  | sum => exact PE.by (pe_callB hc gl (c.free _ hm) (boot_bi .sum (fun z => nomatch z) (fun z => nomatch z)) ha nm db (star_cons hs) (star_any hx0)) rd
  | min => exact PE.by (pe_callB hc gl (c.free _ hm) (boot_bi .min (fun z => nomatch z) (fun z => nomatch z)) ha nm db (star_cons hs) (star_any hx0)) rd
  | max => exact PE.by (pe_callB hc gl (c.free _ hm) (boot_bi .max (fun z => nomatch z) (fun z => nomatch z)) ha nm db (star_cons hs) (star_any hx0)) rd
  | all => exact PE.by (pe_callB hc gl (c.free _ hm) (boot_bi .all (fun z => nomatch z) (fun z => nomatch z)) ha nm db (star_cons hs) (star_any hx0)) rd
  | any => exact PE.by (pe_callB hc gl (c.free _ hm) (boot_bi .any (fun z => nomatch z) (fun z => nomatch z)) ha nm db (star_cons hs) (star_any hx0)) rd
  | sorted => exact PE.by (pe_callB hc gl (c.free _ hm) (boot_bi .sorted (fun z => nomatch z) (fun z => nomatch z)) ha nm db (star_cons hs) (star_any hx0)) rd
theorem boot_ty (t : Ty) (h : ∀ c, t ≠ .exc c) : bootBuiltins (tyName t) = some (.type (tyStr t)) := by
  cases t with
  | exc c => exact absurd rfl (h c)
  | _ => decide +kernel
theorem e_isi {a : CE} {t : Ty} {x z : Str} {y : Expr} {p p2 pos : Pos} (c : Ctx G S C Wx ea k X) (hx : x = "isinstance") (hf : freeB G S x = true) (hz : z = tyName t) (hfz : freeB G S z = true) (ht : ∀ c, t ≠ .exc c) (hs : noStar y = true) (ha : PE X y (tE C X.K Wx ea false a)) :
    PE X (.Call (.Name x p) [y, .Name z p2] [] pos) (tE C X.K Wx ea false (.isi a t)) := by
  subst hx hz
  unfold freeB at hf hfz
  simp only [Bool.and_eq_true] at hf hfz
  obtain ⟨gl, db, nm⟩ := c.gl hf.1
  obtain ⟨gl2, db2, nm2⟩ := c.gl hfz.1
  have pT : PE X (.Name (tyName t) p2) (tC (.ty (tyStr t))) := pe_bltn gl2 (c.free _ hfz.2) (boot_ty t ht) rfl nm2 db2
  have pA := pa_cons (es := [.Name (tyName t) p2]) ha (pa_cons pT pa_nil (star_cons rfl)) (star_cons hs)
  refine PE.by (pe_callB (call_isiD t) gl (c.free _ hf.2) (by decide +kernel) pA nm db (star_cons hs) rfl) fun σ H Q h => ?_
  obtain ⟨W, e, s, R, En, h⟩ := h
  simp only [evE] at h
  refine ⟨W, e, s, R, En, (Sat.bind GE.gt GE.gt h).imp fun v H1 ⟨W1, s1, d1, g1, h1⟩ => ?_⟩
  obtain ⟨d, e1, h2⟩ := h1.lift
  simp only [Option.map_eq_some_iff] at e1
  obtain ⟨b, e2, e3⟩ := e1
  subst e3
  exact ⟨W1, s1, rd s1 d1, v, b, g1.st, rdv g1.st g1.rep, rfl, e2, h2 W1 H1 (.bl b) (Got.val g1.st rfl rfl)⟩
/-- what a changed cell leaves, for an own value -/
theorem base_ok {o : Expr} {n : Str} {env : Env} (h : baseB o = true) : attributeBase o n env (eval o env) = eval o env := by
  cases o <;> first | rfl | cases h
theorem Sat.onLoc {α β : Type} {G2 : Rl α β} {K : PySem.W.Frag} {Wx : WX} {ea : Nat → Addr} {σ : L2.St} {W : Wd} {H : Hp} {x : D} {f : Nat → Out α} {Q : β → Hp → Prop} (h : Sat K Wx ea σ G2 W H (onLoc x f) Q) : ∃ n, x = .loc n ∧ Sat K Wx ea σ G2 W H (f n) Q := by
  cases x with
  | loc n => exact ⟨n, rfl, h⟩
  | _ => exact h.elim
theorem loc_list {K : PySem.W.Frag} {W : Wd} {H : Hp} {s : Sto} {n : Nat} {x : V} (R : RelSt K W s H) (r : Rep K W H (.loc n) x) : tyV K "list" x H := by
  simp only [Rep] at r
  obtain ⟨a, e1, q⟩ := r
  obtain ⟨ds, vs, c1, c2, _, _⟩ := R.cell n a q
  subst e1
  exact .inl ⟨rfl, _, SqL.of c2⟩
theorem putC_exc {n : Nat} {c : D} {s : Sto} : (∃ s', putC n c s = .ok () s') ∨ putC n c s = .bad := by
  unfold putC
  split
  · exact .inl ⟨_, rfl⟩
  · exact .inr rfl
/-- l.pop(..) -/
theorem s_pop {n : Nat} {W2 : Wd} {H2 : Hp} {s2 : Sto} {ds : List D} {x : V} {vs : List V} {σ : L2.St} {Q : VK} (R2 : RelSt X.K W2 s2 H2) (r1 : Rep X.K W2 H2 (.loc n) x) (r2 : Reps X.K W2 H2 ds vs)
    (h : Sat X.K Wx ea σ (GE X.K false) W2 H2 (popC n ds s2) Q) : rPopD X.K x vs H2 Q := by
  unfold popC at h
  split at h
  · rename_i xs q
    split at h
    · simp only [Reps] at r2
      split at h
      · rename_i d q2
        rcases putC_exc (n := n) (c := .lst xs.dropLast) (s := s2) with ⟨s3, q3⟩ | q3
        · rw [q3] at h
          exact ⟨W2, s2, n, xs, xs.dropLast, d, s3, (), R2, r1, q, .inl ⟨r2, q2, rfl⟩, q3, fun v H' c rv => h W2 H' v ⟨c.pres, c.st, rv, fun z => nomatch z⟩⟩
        · rw [q3] at h; exact h.elim
      · exact h.elim
    · rename_i i
      obtain ⟨v0, r0, e0, e1, e2⟩ := r2
      simp only [Reps] at e2
      subst e2
      have e1 : v0 = .int i := e1
      subst e1
      split at h
      · rename_i h0
        split at h
        · rename_i d q2
          rcases putC_exc (n := n) (c := .lst (xs.eraseIdx i.toNat)) (s := s2) with ⟨s3, q3⟩ | q3
          · rw [q3] at h
            exact ⟨W2, s2, n, xs, xs.eraseIdx i.toNat, d, s3, (), R2, r1, q, .inr ⟨i, e0, h0, q2, rfl⟩, q3, fun v H' c rv => h W2 H' v ⟨c.pres, c.st, rv, fun z => nomatch z⟩⟩
          · rw [q3] at h; exact h.elim
        · exact h.elim
      · exact h.elim
    · exact h.elim
  · exact h.elim
theorem e_pop {o : CE} {es : CEs} {l : Expr} {xs : List Expr} {apos cpos : Pos} (hb : baseB l = true) (hline : (apos.endLine == cpos.line) = true) (hx : chkEs G S es xs = true) (hl : xs.length ≤ 1)
    (ho : PE X l (tE C X.K Wx ea false o)) (ha : PA X xs (tA C X.K Wx ea es)) : PE X (.Call (.Attribute l "pop" apos) xs [] cpos) (tE C X.K Wx ea false (.pop o es)) := by
  cases xs with
  | nil =>
    refine PE.by (pe_bm0 PySem.F.plainAttrs_list PySem.F.slot_list_pop PySem.F.type_list_pop mt_popD ho (base_ok hb) hline) fun σ H Q h => ?_
    obtain ⟨W, e, s, R, En, h⟩ := h
    simp only [evE] at h
    refine ⟨W, e, s, R, En, (Sat.bind GE.gt GE.gt h).imp fun x H1 ⟨W1, s1, d1, g1, h1⟩ => ?_⟩
    obtain ⟨n, e1, h2⟩ := h1.onLoc
    subst e1
    cases es with
    | nil => exact ⟨loc_list g1.st g1.rep, s_pop (ds := []) g1.st g1.rep rfl h2⟩
    | cons a r => simp [chkEs] at hx
  | cons y ys =>
    cases ys with
    | cons _ _ => simp at hl
    | nil =>
      have hs : noStar y = true := by
        cases es with
        | nil => simp [chkEs] at hx
        | cons a r => simp only [chkEs, Bool.and_eq_true] at hx; exact hx.1.1
      refine PE.by (pe_bm PySem.F.plainAttrs_list PySem.F.slot_list_pop PySem.F.type_list_pop mt_popD ho ha (base_ok hb) (by rw [star_cons hs]; rfl) hline (star_cons hs) rfl) fun σ H Q h => ?_
      obtain ⟨W, e, s, R, En, h⟩ := h
      simp only [evE] at h
      refine ⟨W, e, s, R, En, (Sat.bind GE.gt GE.gt h).imp fun x H1 ⟨W1, s1, d1, g1, h1⟩ => ?_⟩
      obtain ⟨n, e1, h2⟩ := h1.onLoc
      subst e1
      refine ⟨loc_list g1.st g1.rep, W1, e, s1, g1.st, En.pres g1.pres, (Sat.bind GL.gt GE.gt h2).imp fun vs H2 ⟨W2, s2, ds, ⟨p2, r2, q2⟩, h3⟩ => ?_⟩
      exact s_pop r2 (Rep.pres p2 g1.rep) q2 h3
/-- a new list becomes a cell -/
theorem e_thaw {a : CE} {x : Expr} (ha : PE X x (tE C X.K Wx ea true a)) : PE X x (tE C X.K Wx ea false (.thaw a)) := by
  refine PE.by ha fun σ H Q h => ?_
  obtain ⟨W, e, s, R, En, h⟩ := h
  simp only [evE] at h
  refine ⟨W, e, s, R, En, ?_⟩
  cases q : evE C a e s with
  | bad => rw [q] at h; exact h.elim
  | exc _ _ _ => rw [q] at h; exact h
  | ok d s1 =>
    rw [q] at h
    intro W1 H1 v g1
    simp only [Out.bind] at h
    split at h
    · rename_i xs
      obtain ⟨p, vs, e1, np, o⟩ := g1.own rfl xs rfl
      subst e1
      split at h
      · have hl : W1.rho.length = s1.length := o.rel.len
        refine h ⟨W1.rho ++ [p], W1.av⟩ H1 (.ref p) ⟨g1.pres.cell np, o.cell, ?_, fun z => nomatch z⟩
        simp only [Rep]
        exact ⟨p, rfl, by rw [← hl]; simp⟩
      · exact h.elim
    · exact h.elim
end
end Pv
end
section
set_option maxRecDepth 100000
set_option maxHeartbeats 4000000
namespace Pv
open PySem PySem.Spec PyProof.Rows L2
/-! ### what is walked -/
mutual
theorem same_eq : ∀ a b : D, same a b = true → a = b
  | .non, b, h => by cases b <;> first | rfl | (simp [same] at h)
  | .bl x, b, h => by cases b <;> first | (simp [same] at h; subst h; rfl) | (simp [same] at h)
  | .int x, b, h => by cases b <;> first | (simp [same] at h; subst h; rfl) | (simp [same] at h)
  | .str x, b, h => by cases b <;> first | (simp [same] at h; subst h; rfl) | (simp [same] at h)
  | .loc x, b, h => by cases b <;> first | (simp [same] at h; subst h; rfl) | (simp [same] at h)
  | .tup xs, b, h => by
    cases b with
    | tup ys => simp only [same] at h; rw [sames_eq xs ys h]
    | _ => simp [same] at h
  | .lst xs, b, h => by
    cases b with
    | lst ys => simp only [same] at h; rw [sames_eq xs ys h]
    | _ => simp [same] at h
  | .set xs, b, h => by
    cases b with
    | set ys => simp only [same] at h; rw [sames_eq xs ys h]
    | _ => simp [same] at h
  | .dct ks vs, b, h => by
    cases b with
    | dct ks' vs' => simp only [same, Bool.and_eq_true] at h; rw [sames_eq ks ks' h.1, sames_eq vs vs' h.2]
    | _ => simp [same] at h
theorem sames_eq : ∀ a b : List D, sames a b = true → a = b
  | [], b, h => by cases b <;> first | rfl | (simp [sames] at h)
  | x :: r, b, h => by
    cases b with
    | nil => simp [sames] at h
    | cons y t => simp only [sames, Bool.and_eq_true] at h; rw [same_eq x y h.1, sames_eq r t h.2]
end
section
variable {K : PySem.W.Frag} {W W' W1 : Wd} {H H' H1 : Hp} {s s' : Sto} {a : Addr} {xs : List D}
/-- a list's items: a value's own, or a cell's -/
def LQ (K : PySem.W.Frag) (a : Addr) (xs : List D) (o : Option Nat) (W : Wd) (H : Hp) : Prop :=
  match o with
  | none => ∃ vs, LstAt K W H a vs ∧ Reps K W H xs vs
  | some n => W.rho[n]? = some a
def gdOf (xs : List D) : Option Nat → Gd
  | none => []
  | some n => [(n, xs)]
theorem LQ.get {o : Option Nat} {gd : Gd} (hs : ∀ p ∈ gdOf xs o, p ∈ gd) (R : RelSt K W s H) (g : gok s gd = true) (q : LQ K a xs o W H) : ∃ vs, SqL K H a vs ∧ Reps K W H xs vs := by
  cases o with
  | none => obtain ⟨vs, h, r⟩ := q; exact ⟨vs, h.sq, r⟩
  | some n =>
    have hm : (n, xs) ∈ gd := hs _ (by simp [gdOf])
    have hg : ∀ gd : Gd, (n, xs) ∈ gd → gok s gd = true → s.getD n .non = .lst xs := by
      intro gd
      induction gd with
      | nil => intro h; simp at h
      | cons p r ih =>
        intro h g
        obtain ⟨m, ys⟩ := p
        simp only [gok, Bool.and_eq_true] at g
        rcases List.mem_cons.mp h with z | z
        · cases z
          exact same_eq _ _ g.1
        · exact ih z g.2
    have e := hg gd hm g
    obtain ⟨ds, vs, e1, e2, e3, _⟩ := R.cell n a q
    rw [List.getD_eq_getElem?_getD, e1] at e
    cases e
    exact ⟨vs, SqL.of e2, e3⟩
theorem LQ.mono {o : Option Nat} (k : Keeps K W H W' H' W.rho.length) (q : LQ K a xs o W H) : LQ K a xs o W' H' := by
  cases o with
  | none => obtain ⟨vs, h, r⟩ := q; exact ⟨vs, k.lst _ _ h, Reps.by k xs (reps_below xs r) r⟩
  | some n => exact k.loc n a (List.getElem?_eq_some_iff.mp q).1 q
/-- a tuple's items -/
def TQ (K : PySem.W.Frag) (a : Addr) (xs : List D) (W : Wd) (H : Hp) : Prop := ∃ vs, SqT K H a vs ∧ Reps K W H xs vs
theorem TQ.mono (k : Keeps K W H W' H' W.rho.length) (q : TQ K a xs W H) : TQ K a xs W' H' := by
  obtain ⟨vs, h, r⟩ := q
  exact ⟨vs, k.tup _ _ h, Reps.by k xs (reps_below xs r) r⟩
theorem Reps.at {ds : List D} {vs : List V} {i : Nat} (r : Reps K W H ds vs) (h : i < ds.length) : ∃ v, vs[i]? = some v ∧ Rep K W H ds[i] v := r.get (List.getElem?_eq_getElem h)
theorem wd_list {o : Option Nat} {gd : Gd} (hs : ∀ p ∈ gdOf xs o, p ∈ gd) : WalkD K (Itl K a) xs gd (LQ K a xs o) where
  mono := LQ.mono
  go := fun i W s H hi R g q => by
    obtain ⟨vs, h, r⟩ := q.get hs R g
    obtain ⟨v, e, _⟩ := r.at hi
    exact ⟨vs, v, h, e⟩
  stop := fun W s H R g q => by
    obtain ⟨vs, h, r⟩ := q.get hs R g
    exact ⟨vs, h, by rw [r.length]; exact Nat.le_refl _⟩
  yld := fun i W s H x H' hi R g q y => by
    obtain ⟨vs, h, r⟩ := q.get hs R g
    obtain ⟨v, e, rv⟩ := r.at hi
    obtain ⟨e1, e2⟩ := y
    subst e1
    have := e2 vs h
    rw [e] at this
    cases this
    exact ⟨xs[i], List.getElem?_eq_getElem hi, Pres.refl, R, rv⟩
theorem wd_tup {gd : Gd} : WalkD K (Itt K a) xs gd (TQ K a xs) where
  mono := TQ.mono
  go := fun i W s H hi R g q => by
    obtain ⟨vs, h, r⟩ := q
    obtain ⟨v, e, _⟩ := r.at hi
    exact ⟨vs, v, h, e⟩
  stop := fun W s H R g q => by
    obtain ⟨vs, h, r⟩ := q
    exact ⟨vs, h, by rw [r.length]; exact Nat.le_refl _⟩
  yld := fun i W s H x H' hi R g q y => by
    obtain ⟨vs, h, r⟩ := q
    obtain ⟨v, e, rv⟩ := r.at hi
    obtain ⟨e1, e2⟩ := y
    subst e1
    have := e2 vs h
    rw [e] at this
    cases this
    exact ⟨xs[i], List.getElem?_eq_getElem hi, Pres.refl, R, rv⟩
theorem rev_at {i : Nat} (h : i < xs.length) : xs.reverse[i]? = some (xs[xs.length - 1 - i]'(by omega)) := by
  rw [List.getElem?_reverse h, List.getElem?_eq_getElem (by omega)]
theorem wd_rev {o : Option Nat} {gd : Gd} {n : Nat} (hn : n = xs.length) (hs : ∀ p ∈ gdOf xs o, p ∈ gd) : WalkD K (Itv K a n) xs.reverse gd (LQ K a xs o) where
  mono := LQ.mono
  go := fun i W s H hi R g q => by
    subst hn
    rw [List.length_reverse] at hi
    obtain ⟨vs, h, r⟩ := q.get hs R g
    obtain ⟨v, e, _⟩ := r.at (i := xs.length - 1 - i) (by omega)
    exact ⟨hi, vs, v, h, e⟩
  stop := fun W s H R g q => by subst hn; show xs.length ≤ xs.reverse.length; simp
  yld := fun i W s H x H' hi R g q y => by
    subst hn
    rw [List.length_reverse] at hi
    obtain ⟨vs, h, r⟩ := q.get hs R g
    obtain ⟨v, e, rv⟩ := r.at (i := xs.length - 1 - i) (by omega)
    obtain ⟨e1, e2⟩ := y
    subst e1
    have := e2 vs h
    rw [e] at this
    cases this
    exact ⟨_, rev_at hi, Pres.refl, R, rv⟩
theorem wd_revT {gd : Gd} {n : Nat} (hn : n = xs.length) : WalkD K (RT.ItvT K a n) xs.reverse gd (TQ K a xs) where
  mono := TQ.mono
  go := fun i W s H hi R g q => by
    subst hn
    rw [List.length_reverse] at hi
    obtain ⟨vs, h, r⟩ := q
    obtain ⟨v, e, _⟩ := r.at (i := xs.length - 1 - i) (by omega)
    exact ⟨hi, vs, v, h, e⟩
  stop := fun W s H R g q => by subst hn; show xs.length ≤ xs.reverse.length; simp
  yld := fun i W s H x H' hi R g q y => by
    subst hn
    rw [List.length_reverse] at hi
    obtain ⟨vs, h, r⟩ := q
    obtain ⟨v, e, rv⟩ := r.at (i := xs.length - 1 - i) (by omega)
    obtain ⟨e1, e2⟩ := y
    subst e1
    have := e2 vs h
    rw [e] at this
    cases this
    exact ⟨_, rev_at hi, Pres.refl, R, rv⟩
theorem rangeD_len {lo c : Int} {n : Nat} : (rangeD lo n c).length = n := by simp [rangeD]
theorem rangeD_at {lo c : Int} {n i : Nat} (h : i < n) : (rangeD lo n c)[i]? = some (.int (lo + (i : Int) * c)) := by simp [rangeD, h]
theorem wd_range {gd : Gd} {lo : Int} {n : Nat} : WalkD K (Itr lo n) (rangeD lo n 1) gd (fun _ _ => True) where
  mono := fun _ q => q
  go := fun i W s H hi R g q => by rw [rangeD_len] at hi; exact hi
  stop := fun W s H R g q => by rw [rangeD_len]; exact Nat.le_refl _
  yld := fun i W s H x H' hi R g q y => by
    rw [rangeD_len] at hi
    obtain ⟨e1, e2⟩ := y
    subst e1
    exact ⟨_, rangeD_at hi, Pres.refl, R, by rw [Int.mul_one]; exact e2⟩
theorem wd_rangeC {gd : Gd} {lo c : Int} {n : Nat} : WalkD K (Itc lo c n) (rangeD lo n c) gd (fun _ _ => True) where
  mono := fun _ q => q
  go := fun i W s H hi R g q => by rw [rangeD_len] at hi; exact hi
  stop := fun W s H R g q => by rw [rangeD_len]; exact Nat.le_refl _
  yld := fun i W s H x H' hi R g q y => by
    rw [rangeD_len] at hi
    obtain ⟨e1, e2⟩ := y
    subst e1
    exact ⟨_, rangeD_at hi, Pres.refl, R, e2⟩
theorem wd_str {gd : Gd} {z : Str} : WalkD K (Its z) (z.cps.toList.map fun c => .str ⟨#[c]⟩) gd (fun _ _ => True) where
  mono := fun _ q => q
  go := fun i W s H hi R g q => by show i < z.cps.size; simpa using hi
  stop := fun W s H R g q => by show z.cps.size ≤ _; simp
  yld := fun i W s H x H' hi R g q y => by
    obtain ⟨e1, c, e2, e3⟩ := y
    subst e1
    refine ⟨.str ⟨#[c]⟩, ?_, Pres.refl, R, e3⟩
    simp [e2]
theorem enumD_len : ∀ (k : Nat) (xs : List D), (enumD k xs).length = xs.length
  | _, [] => rfl
  | k, _ :: xs => by simp [enumD, enumD_len (k + 1) xs]
theorem enumD_at : ∀ (k : Nat) (xs : List D) (i : Nat), (enumD k xs)[i]? = xs[i]?.map fun x => .tup [.int ((k + i : Nat) : Int), x]
  | _, [], _ => by simp [enumD]
  | k, x :: xs, 0 => by simp [enumD]
  | k, x :: xs, i + 1 => by
    simp only [enumD, List.getElem?_cons_succ]
    rw [enumD_at (k + 1) xs i, show k + 1 + i = k + (i + 1) by omega]
theorem pair_new {T : Addr} {d e : D} {x y : V} (R : RelSt K W s H) (hd : Rep K W H d x) (he : Rep K W H e y) (h : H T = none) : Pres W H W (upd H T (.tup [x, y])) ∧ RelSt K W s (upd H T (.tup [x, y])) ∧ Rep K W (upd H T (.tup [x, y])) (.tup [d, e]) (.ref T) := by
  have g := Got.tupNew (fr := false) (p := T) R (ds := [d, e]) (vs := [x, y]) ⟨x, [y], rfl, hd, y, [], rfl, he, rfl⟩ h
  exact ⟨g.pres, g.st, g.rep⟩
theorem wd_enum {o : Option Nat} {gd : Gd} (hs : ∀ p ∈ gdOf xs o, p ∈ gd) : WalkD K (Ite K a) (enumD 0 xs) gd (LQ K a xs o) where
  mono := LQ.mono
  go := fun i W s H hi R g q => by
    rw [enumD_len] at hi
    obtain ⟨vs, h, r⟩ := q.get hs R g
    obtain ⟨v, e, _⟩ := r.at hi
    exact ⟨vs, v, h, e⟩
  stop := fun W s H R g q => by
    obtain ⟨vs, h, r⟩ := q.get hs R g
    exact ⟨vs, h, by rw [enumD_len, r.length]; exact Nat.le_refl _⟩
  yld := fun i W s H x H' hi R g q y => by
    rw [enumD_len] at hi
    obtain ⟨vs, h, r⟩ := q.get hs R g
    obtain ⟨v, e, rv⟩ := r.at hi
    obtain ⟨T, u, e1, e2, e3, e4⟩ := y
    have := e4 vs h
    rw [e] at this
    cases this
    subst e1 e3
    obtain ⟨p1, p2, p3⟩ := pair_new (d := .int ((i : Nat) : Int)) (x := .int (i : Nat)) R rfl rv e2
    refine ⟨_, ?_, p1, p2, p3⟩
    rw [enumD_at, List.getElem?_eq_getElem hi, Nat.zero_add]
    rfl
theorem zipD_len : ∀ (xs ys : List D), (zipD xs ys).length = min xs.length ys.length
  | [], ys => by simp [zipD]
  | _ :: _, [] => by simp [zipD]
  | x :: xs, y :: ys => by simp only [zipD, List.length_cons, zipD_len xs ys]; omega
theorem zipD_at : ∀ (xs ys : List D) (i : Nat) (h1 : i < xs.length) (h2 : i < ys.length), (zipD xs ys)[i]? = some (.tup [xs[i], ys[i]])
  | [], _, _, h, _ => by simp at h
  | _ :: _, [], _, _, h => by simp at h
  | x :: xs, y :: ys, 0, _, _ => by simp [zipD]
  | x :: xs, y :: ys, i + 1, h1, h2 => by
    simp only [zipD, List.getElem?_cons_succ, List.getElem_cons_succ]
    exact zipD_at xs ys i _ _
theorem wd_zip {b : Addr} {ys : List D} {o p : Option Nat} {gd : Gd} (hs : ∀ q ∈ gdOf xs o, q ∈ gd) (hs2 : ∀ q ∈ gdOf ys p, q ∈ gd) : WalkD K (Itz K a b) (zipD xs ys) gd (fun W H => LQ K a xs o W H ∧ LQ K b ys p W H) where
  mono := fun k q => ⟨q.1.mono k, q.2.mono k⟩
  go := fun i W s H hi R g q => by
    rw [zipD_len] at hi
    obtain ⟨vs, h, r⟩ := q.1.get hs R g
    obtain ⟨ws, h', r'⟩ := q.2.get hs2 R g
    obtain ⟨v, e, _⟩ := r.at (i := i) (by omega)
    obtain ⟨w, e', _⟩ := r'.at (i := i) (by omega)
    exact ⟨vs, ws, v, w, h, h', e, e'⟩
  stop := fun W s H R g q => by
    obtain ⟨vs, h, r⟩ := q.1.get hs R g
    obtain ⟨ws, h', r'⟩ := q.2.get hs2 R g
    have := r.length
    have := r'.length
    exact ⟨vs, ws, h, h', by rw [zipD_len]; omega⟩
  yld := fun i W s H x H' hi R g q y => by
    rw [zipD_len] at hi
    obtain ⟨vs, h, r⟩ := q.1.get hs R g
    obtain ⟨ws, h', r'⟩ := q.2.get hs2 R g
    obtain ⟨v, e, rv⟩ := r.at (i := i) (by omega)
    obtain ⟨w, e', rw'⟩ := r'.at (i := i) (by omega)
    obtain ⟨T, u, u', e1, e2, e3, e4, e5⟩ := y
    have q4 := e4 vs h
    rw [e] at q4
    cases q4
    have q5 := e5 ws h'
    rw [e'] at q5
    cases q5
    subst e1 e3
    obtain ⟨p1, p2, p3⟩ := pair_new R rv rw' e2
    exact ⟨_, zipD_at xs ys i (by omega) (by omega), p1, p2, p3⟩
theorem wd_zipT {b : Addr} {ys : List D} {gd : Gd} : WalkD K (RZ.ItzT K a b) (zipD xs ys) gd (fun W H => TQ K a xs W H ∧ TQ K b ys W H) where
  mono := fun k q => ⟨q.1.mono k, q.2.mono k⟩
  go := fun i W s H hi R g q => by
    rw [zipD_len] at hi
    obtain ⟨⟨vs, h, r⟩, ⟨ws, h', r'⟩⟩ := q
    obtain ⟨v, e, _⟩ := r.at (i := i) (by omega)
    obtain ⟨w, e', _⟩ := r'.at (i := i) (by omega)
    exact ⟨vs, ws, v, w, h, h', e, e'⟩
  stop := fun W s H R g q => by
    obtain ⟨⟨vs, h, r⟩, ⟨ws, h', r'⟩⟩ := q
    have := r.length
    have := r'.length
    exact ⟨vs, ws, h, h', by rw [zipD_len]; omega⟩
  yld := fun i W s H x H' hi R g q y => by
    rw [zipD_len] at hi
    obtain ⟨⟨vs, h, r⟩, ⟨ws, h', r'⟩⟩ := q
    obtain ⟨v, e, rv⟩ := r.at (i := i) (by omega)
    obtain ⟨w, e', rw'⟩ := r'.at (i := i) (by omega)
    obtain ⟨T, u, u', e1, e2, e3, e4, e5⟩ := y
    have q4 := e4 vs h
    rw [e] at q4
    cases q4
    have q5 := e5 ws h'
    rw [e'] at q5
    cases q5
    subst e1 e3
    obtain ⟨p1, p2, p3⟩ := pair_new R rv rw' e2
    exact ⟨_, zipD_at xs ys i (by omega) (by omega), p1, p2, p3⟩
/-- a value as a list or a tuple -/
inductive SeqV (K : PySem.W.Frag) (W : Wd) (s : Sto) (H : Hp) (xs : List D) (g : Gd) (a : Addr) (vs : List V) : Bool → Prop where
  | lst (o : Option Nat) (q : LQ K a xs o W H) (h : SqL K H a vs) (l : vs.length = xs.length) (hg : g = gdOf xs o) : SeqV K W s H xs g a vs false
  | tup (q : TQ K a xs W H) (h : SqT K H a vs) (l : vs.length = xs.length) (hg : g = []) : SeqV K W s H xs g a vs true
theorem walkQ_of {d : D} {v : V} {k : Bool} {g : Gd} (R : RelSt K W s H) (r : Rep K W H d v) (h : walkQ s d = some (k, xs, g)) : ∃ a vs, v = .ref a ∧ SeqV K W s H xs g a vs k := by
  unfold walkQ at h
  split at h
  · cases h
    simp only [Rep] at r
    obtain ⟨a, vs, e, t, q⟩ := r
    exact ⟨a, vs, e, .tup ⟨vs, t, q⟩ t q.length.symm rfl⟩
  · cases h
    simp only [Rep] at r
    obtain ⟨a, vs, e, t, q⟩ := r
    exact ⟨a, vs, e, .lst none ⟨vs, t, q⟩ t.sq q.length.symm rfl⟩
  · rename_i n
    split at h
    · rename_i ys e
      cases h
      simp only [Rep] at r
      obtain ⟨a, e1, q⟩ := r
      obtain ⟨ds, vs, c1, c2, c3, _⟩ := R.cell n a q
      rw [List.getD_eq_getElem?_getD, c1] at e
      cases e
      exact ⟨a, vs, e1, .lst (some n) q (SqL.of c2) c3.length.symm rfl⟩
    · cases h
  · cases h
end
end Pv
end
section
set_option maxRecDepth 100000
set_option maxHeartbeats 4000000
/-! enumerate of a tuple -/
namespace PySem
open Sem (wp)
open AutoSeq1 (wpAny_loadPart')
def tupIt (l : Addr) : Obj := { cls := .type "tuple_iterator", data := .fields #[.ref l, .int 0 0] }
def enumOf (a : Addr) : Obj := { cls := .type "enumerate", data := .fields #[.none, .bool false, .ref a, rawInt 0, .none, .none] }
set_option maxHeartbeats 1000000 in
theorem enumT_new (l : Addr) (items : Array Value) (n : Nat) (dct : Option Addr) (sl : Array (Option Value)) :
    Meets (Builtin.«enumerate.__new__» ⟨[.type "enumerate", .ref l], []⟩) (fun _ R s => s.heap.get? l = some { cls := .type "tuple", dict := dct, data := .seq items n, slots := sl } ∧
      R (.ok (.ret (.ref (s.heap.push (tupIt l)).objs.size))) { s with heap := (s.heap.push (tupIt l)).push (enumOf s.heap.objs.size) }) :=
  .of_wp fun prog w A R s h => by
    obtain ⟨hp, gg, dd, tt, oo⟩ := s; obtain ⟨at_, ht⟩ := h
    have subs := sub_enumerate
    have isT : Heap.IsTuple (Shared.heap ⟨hp, gg, dd, tt, oo⟩) l items := ⟨_, at_, rfl, n, rfl⟩
    wp_walk using wpAny_loadPart' at_
    refine wpAny_stack_any fun stk => wpAny_pure ?_
    split
    · rename_i c _ _ _ _ _
      cases (c == Value.type "enumerate") <;> (wp_walk using wpAny_loadPart' at_, wpAny_pyIter_tuple isT; exact ⟨_, rfl, ht⟩)
    · wp_walk using wpAny_loadPart' at_, wpAny_pyIter_tuple isT
      exact ⟨_, rfl, ht⟩
theorem call_enumT {prog : Program} {w : World} {A : Around} {E : Value → Shared → Prop} {s : Shared} {l : Addr} {items : Array Value} {Q : Value → Shared → Prop} (isT : s.heap.IsTuple l items)
    (h : ∀ h', IsEnum h' (s.heap.objs.size + 1) s.heap.objs.size 0 .none → h'.IsTupleIter s.heap.objs.size l 0 → (∀ b o, s.heap.get? b = some o → h'.get? b = some o) → Q (.ref (s.heap.objs.size + 1)) { s with heap := h' }) :
    wpAny (model prog w) A (call (.type "enumerate") [.ref l]) Q E s := by
  obtain ⟨⟨c, dct, dt, sl⟩, at_, ec, n, ed⟩ := isT
  have ec : c = .type "tuple" := ec
  have ed : dt = .seq items n := ed
  subst ec ed
  refine callType_new F.called_enumerate (by decide) (F.typeCall_enumerate_1 _) (F.newCall_enumerate_1 _) (fun obj => F.args_object_init_2 obj _) F.entry_enumerate_new (enumT_new l items n dct sl) ⟨at_, ?_⟩
  have sz : (s.heap.push (tupIt l)).objs.size = s.heap.objs.size + 1 := Heap.size_push ..
  show _ ∧ _
  rw [sz]
  have en : IsEnum ((s.heap.push (tupIt l)).push (enumOf s.heap.objs.size)) (s.heap.objs.size + 1) s.heap.objs.size 0 .none := by
    have q := Heap.get?_push_size (s.heap.push (tupIt l)) (o := enumOf s.heap.objs.size) rfl
    rw [sz] at q; exact q
  exact ⟨⟨_, en, rfl⟩, h _ en ⟨_, Heap.get?_push_of_some _ (Heap.get?_push_size _ rfl), rfl, rfl⟩ fun b o x => Heap.get?_push_of_some _ (Heap.get?_push_of_some _ x)⟩
end PySem
namespace Pv
open PySem PySem.Spec PyProof.Rows L2
/-- the tuple at a, each item in a new pair -/
def IteT (K : PySem.W.Frag) (a : Addr) : It :=
  ⟨fun i H => ∃ (xs : List V) (x : V), SqT K H a xs ∧ xs[i]? = some x, fun i H v H' => ∃ T x, v = .ref T ∧ H T = none ∧ H' = upd H T (.tup [.int (i : Nat), x]) ∧ ∀ xs, SqT K H a xs → xs[i]? = some x, fun i H => ∃ xs : List V, SqT K H a xs ∧ xs.length = i⟩
theorem turn_enumT {P : Program} {w : World} {K : PySem.W.Frag} {elts : List Expr} {kk : Nat} {tpos : Pos} (a e it : Addr) (nit : a ≠ it) (nea : e ≠ a) :
    Turn P w K (.Tuple elts kk tpos) (IteT K a) [e, it] e (fun i h => (∃ old, IsEnum h e it ((i : Nat) : Int) old) ∧ h.IsTupleIter it a i ∧ e ≠ it) where
  mem := List.mem_cons_self
  obj := fun i h st b hb => by
    obtain ⟨⟨old, en⟩, ⟨o, ho, hc, hd⟩, _⟩ := st
    rcases List.mem_cons.mp hb with z | z
    · subst z; exact ⟨_, en, fun v q => nomatch q⟩
    · cases List.mem_singleton.mp z; exact ⟨o, ho, fun v q => by rw [hd] at q; cases q⟩
  keep := fun i h h' st k => let ⟨⟨old, en⟩, hi, ne⟩ := st; ⟨⟨old, k e (by simp) _ en⟩, hi.at fun o q => k it (by simp) o q, ne⟩
  item := by
    intro X hP hw hK hc i pins s σ H E I hf st hg
    subst hP hw hK
    obtain ⟨⟨old, en⟩, tit, ne⟩ := st
    obtain ⟨xs, x, sq, hx⟩ := hg
    obtain ⟨its, rv, p, _⟩ := I.tuple sq
    have p : s.heap.IsTuple a its.toArray := p
    obtain ⟨u, hu, ru⟩ := rv.get hx
    have elt : e < s.heap.objs.size := Heap.lt_size en
    have ilt : it < s.heap.objs.size := by obtain ⟨_, q, _⟩ := tit; exact Heap.lt_size q
    have il : i < its.toArray.size := by have := (List.getElem?_eq_some_iff.mp hu).1; simpa using this
    refine wpAny_pyNext_enum_itemD (Draws.tuple (A := X.A.in1) (I.ok.hd hc) it a nit its.toArray) en ⟨tit, p⟩ il ne (by simp [ne, nea]) fun y h' tk hy ho hst hT hsz hk => ?_
    have hy : its.toArray[i]? = some y := hy
    have eu : y = u := by
      have q : its.toArray[i]? = some u := by simpa using hu
      rw [hy] at q; exact Option.some.inj q
    subst eu
    refine ⟨_, rfl, wpAny_letOwnedTupleGo_enum (s := { s with heap := h', toks := tk + 1 }) ho fun h2 en2 sb => ?_⟩
    have T2 : h2.get? s.heap.objs.size = some { cls := .type "tuple", data := .seq #[.int i tk, y] } := (sb.2 _ (Nat.ne_of_gt elt)).trans hT
    have fresh : ObjOk X.prog X.w (upd H s.heap.objs.size (.tup [.int (i : Nat), x])) h2 s.heap.objs.size (.tup [.int (i : Nat), x]) :=
      ⟨by show 2 ≤ sizeLine; decide, [.int i tk, y], .cons ⟨_, rfl⟩ (.cons ru .nil), ⟨_, T2, rfl, _, rfl⟩⟩
    have J : Inv X pins σ (upd H s.heap.objs.size (.tup [.int (i : Nat), x])) { s with heap := h2, toks := tk + 1 } :=
      I.turnedNew (ch := [e, it]) (fun b ob hb q => (sb.2 b (fun z => hb (by simp [z]))).trans (hk b ob (fun z => hb (by simp [z])) (fun z => hb (by simp [z])) q)) hf (Nat.le_refl _) fresh
    refine ⟨.ref s.heap.objs.size, _, J, rfl, ⟨_, x, rfl, I.hok.fresh (Nat.le_refl _), rfl, fun zs hz => ?_⟩, ⟨⟨y, ?_⟩, hst.1.at fun o q => (sb.2 it (Ne.symm ne)).trans q, ne⟩, fun b hb => ?_⟩
    · rw [I.tuple_inj hz sq]; exact hx
    · have e1 : ((i + 1 : Nat) : Int) = (i : Int) + 1 := by omega
      rw [e1]; exact en2
    · have lt : b < s.heap.objs.size := by
        rcases List.mem_cons.mp hb with z | z
        · rw [z]; exact elt
        · rw [List.mem_singleton.mp z]; exact ilt
      rw [upd_ne (Nat.ne_of_lt lt)]
      exact (hf b hb).1
  done := by
    intro X hP hw hK hc i pins s σ H E I hf st hg
    subst hP hw hK
    obtain ⟨⟨old, en⟩, tit, ne⟩ := st
    obtain ⟨xs, sq, hx⟩ := hg
    obtain ⟨its, rv, p, _⟩ := I.tuple sq
    have p : s.heap.IsTuple a its.toArray := p
    have sz : i = its.toArray.size := by rw [← hx, rv.length, List.size_toArray]
    obtain ⟨f0, f1, f2, f3, f4, f5⟩ := hf it (List.mem_cons_of_mem _ List.mem_cons_self)
    rw [sz] at tit
    exact wpAny_pyNext_enum_endD (Draws.tuple (A := X.A.in1) (I.ok.hd hc) it a nit its.toArray) en ⟨tit, p⟩ fun h' eb => ⟨rfl, I.turned (t' := s.toks) (fun b o hb q => eb b o hb q) f0 f1 f3 f4 f5⟩
  self := fun A i s Q E st h => let ⟨⟨_, en⟩, _⟩ := st; wpAny_pyIter_enum en h
def iEnumA (K : PySem.W.Frag) (ta : TA) : TI := fun σ H R => ta σ H fun vs H1 => ∃ a xs, vs = [.ref a] ∧ ((SqL K H1 a xs ∧ R (Ite K a) H1) ∨ (SqT K H1 a xs ∧ R (IteT K a) H1))
theorem pi_enumA {X : Cx} {e : Expr} {ta : TA} {p pos tpos : Pos} {elts : List Expr} {kk : Nat} (hg : Gl X "enumerate") (hm : X.mg "enumerate" = none) (ha : PA X [e] ta) (hs : starEach [e] X.env = [(false, eval e X.env)]) :
    PI X (.Tuple elts kk tpos) (.Call (.Name "enumerate" p) [e] [] pos) (iEnumA X.K ta) := by
  refine ⟨fun pins s σ H R I h => Call_ (ld_blt I hg hm boot_enumerate (PyProof.Rows.callWith_type1 (thn (ha.run pos pins s σ H _ I h) fun us s1 ⟨vs, H1, I1, r1, q1⟩ => ?_) hs rfl))⟩
  obtain ⟨a, xs, ev, q1⟩ := q1
  subst ev
  cases r1 with
  | cons r rr =>
    cases rr
    cases r
    have two : ∀ b, b ∈ [s1.heap.objs.size + 1, s1.heap.objs.size] → FpOk X pins H1 b := fun b hb => by
      have le : s1.heap.objs.size ≤ b := by
        rcases List.mem_cons.mp hb with z | z
        · rw [z]; exact Nat.le_succ _
        · rw [List.mem_singleton.mp z]; exact Nat.le_refl _
      exact I1.fpOk le (I1.hok.fresh le)
    rcases q1 with ⟨hq, q⟩ | ⟨hq, q⟩
    · obtain ⟨its, rv, pl, _⟩ := I1.list hq
      refine call_enumerate_list pl.isList fun h' en tit _ hk => wpAny_pyIter_enum en ?_
      exact ⟨s1.heap.objs.size + 1, [s1.heap.objs.size + 1, s1.heap.objs.size], _, _, H1, rfl, I1.kept (t' := s1.toks) hk, turn_enum a (s1.heap.objs.size + 1) s1.heap.objs.size, ⟨⟨.none, en⟩, tit, Nat.succ_ne_self _⟩, two, q⟩
    · obtain ⟨its, rv, pl, _⟩ := I1.tuple hq
      have pl : s1.heap.IsTuple a its.toArray := pl
      have lt : a < s1.heap.objs.size := by obtain ⟨o, q, _⟩ := pl; exact Heap.lt_size q
      refine call_enumT pl fun h' en tit hk => wpAny_pyIter_enum en ?_
      exact ⟨s1.heap.objs.size + 1, [s1.heap.objs.size + 1, s1.heap.objs.size], _, _, H1, rfl, I1.kept (t' := s1.toks) hk, turn_enumT a (s1.heap.objs.size + 1) s1.heap.objs.size (Nat.ne_of_lt lt) (Nat.ne_of_gt (Nat.lt_succ_of_lt lt)), ⟨⟨.none, en⟩, tit, Nat.succ_ne_self _⟩, two, q⟩
section
variable {K : PySem.W.Frag} {xs : List D} {a : Addr}
theorem wd_enumT {gd : Gd} : WalkD K (IteT K a) (enumD 0 xs) gd (TQ K a xs) where
  mono := fun k q => q.mono k
  go := fun i W s H hi R g q => by
    obtain ⟨vs, h, r⟩ := q
    rw [enumD_len] at hi
    obtain ⟨v, e, _⟩ := r.at hi
    exact ⟨vs, v, h, e⟩
  stop := fun W s H R g q => by
    obtain ⟨vs, h, r⟩ := q
    exact ⟨vs, h, by rw [enumD_len, r.length]⟩
  yld := fun i W s H x H' hi R g q y => by
    obtain ⟨vs, h, r⟩ := q
    rw [enumD_len] at hi
    obtain ⟨v, e, rv⟩ := r.at hi
    obtain ⟨T, u, e1, e2, e3, e4⟩ := y
    have q4 := e4 vs h
    rw [e] at q4
    cases q4
    subst e1 e3
    obtain ⟨p1, p2, p3⟩ := pair_new (d := .int ((i : Nat) : Int)) (x := .int (i : Nat)) R rfl rv e2
    refine ⟨_, ?_, p1, p2, p3⟩
    rw [enumD_at, List.getElem?_eq_getElem hi, Nat.zero_add]
    rfl
end
end Pv
end
section
set_option maxRecDepth 100000
set_option maxHeartbeats 4000000
namespace Pv
open PySem PySem.Spec PyProof.Rows L2
section
variable {G : GC} {S : SX} {C : Cl} {Wx Wx' : WX} {ea : Nat → Addr} {k : Nat} {X : Cx} {tg : Expr}
theorem PI.by {e : Expr} {t t' : TI} (h : PI X tg e t) (i : ∀ σ H R, t' σ H R → t σ H R) : PI X tg e t' := ⟨fun pins s σ H R I q => h.run pins s σ H R I (i σ H R q)⟩
theorem PG.by {e : Expr} {t t' : TG} (h : PG X e t) (i : ∀ v σ H Q, t' v σ H Q → t v σ H Q) : PG X e t' := ⟨fun pins s σ H v u Q I r q => h.run pins s σ H v u Q I r (i v σ H Q q)⟩
theorem i_of {a : CE} {x : Expr} (ha : PE X x (tE C X.K Wx ea false a)) : PI X tg x (tI C X.K Wx ea (.of a)) := by
  refine ⟨fun pins s σ H R I h => ?_⟩
  obtain ⟨W, e, st, Rs, En, h⟩ := h
  simp only [evI] at h
  cases q : evE C a e st with
  | bad => rw [q] at h; exact h.elim
  | exc k v s' => rw [q] at h; exact (pi_list ha).run pins s σ H R I ⟨W, e, st, Rs, En, by rw [q]; exact h⟩
  | ok d s1 =>
    rw [q] at h
    simp only [Out.bind] at h
    have go : ∀ {Q : VK}, (∀ W' H' v, Got X.K false W H W' s1 H' d v → Q v H') → tE C X.K Wx ea false a σ H Q := fun hq => ⟨W, e, st, Rs, En, by rw [q]; exact hq⟩
    cases d with
    | tup xs =>
      refine (pi_tup ha).run pins s σ H R I (go fun W' H' v g => ?_)
      have r := g.rep
      simp only [Rep] at r
      obtain ⟨p, vs, e1, t, r⟩ := r
      exact ⟨p, e1, ⟨vs, t⟩, h W' H' _ ⟨g.pres, g.st, _, wd_tup, vs, t, r⟩⟩
    | lst xs =>
      refine (pi_list ha).run pins s σ H R I (go fun W' H' v g => ?_)
      have r := g.rep
      simp only [Rep] at r
      obtain ⟨p, vs, e1, t, r⟩ := r
      exact ⟨p, e1, ⟨vs, t.sq⟩, h W' H' _ ⟨g.pres, g.st, _, wd_list (o := none) (fun _ z => by simp [gdOf] at z), vs, t, r⟩⟩
    | loc n =>
      refine (pi_list ha).run pins s σ H R I (go fun W' H' v g => ?_)
      have r := g.rep
      simp only [Rep] at r
      obtain ⟨p, e1, r⟩ := r
      obtain ⟨ds, vs, c1, c2, c3, _⟩ := g.st.cell n p r
      have e : s1.getD n .non = .lst ds := by rw [List.getD_eq_getElem?_getD, c1]; rfl
      simp only [walkD, e] at h
      exact ⟨p, e1, ⟨vs, SqL.of c2⟩, h W' H' _ ⟨g.pres, g.st, _, wd_list (o := some n) (fun _ z => z), r⟩⟩
    | str z =>
      refine (pi_str ha).run pins s σ H R I (go fun W' H' v g => ?_)
      exact ⟨z, g.rep, h W' H' _ ⟨g.pres, g.st, _, wd_str, trivial⟩⟩
    | _ => exact h.elim
theorem i_rev {a : CE} {x : Str} {y : Expr} {p pos : Pos} (c : Ctx G S C Wx ea k X) (hx : x = "reversed") (hf : freeB G S x = true) (hs : noStar y = true) (ha : PE X y (tE C X.K Wx ea false a)) :
    PI X tg (.Call (.Name x p) [y] [] pos) (tI C X.K Wx ea (.rev a)) := by
  subst hx
  unfold freeB at hf
  simp only [Bool.and_eq_true] at hf
  refine PI.by (RT.pi_revA (c.gl hf.1).1 (c.free _ hf.2) ha (star_cons hs)) fun σ H R h => ?_
  obtain ⟨W, e, s, Rs, En, h⟩ := h
  simp only [evI] at h
  refine ⟨W, e, s, Rs, En, (Sat.bind GE.gt GI.gt h).imp fun v H1 ⟨W1, s1, d1, g1, h1⟩ => ?_⟩
  cases q : walkQ s1 d1 with
  | none => rw [q] at h1; exact h1.elim
  | some z =>
    obtain ⟨kk, xs, g⟩ := z
    rw [q] at h1
    obtain ⟨p, vs, e1, sq⟩ := walkQ_of g1.st g1.rep q
    refine ⟨p, vs, e1, ?_⟩
    cases sq with
    | lst o q' h l hg => exact .inl ⟨h, h1 W1 H1 _ ⟨Pres.refl, g1.st, _, wd_rev l (o := o) (fun _ z => by rw [hg]; exact z), q'⟩⟩
    | tup q' h l hg => exact .inr ⟨h, h1 W1 H1 _ ⟨Pres.refl, g1.st, _, wd_revT l, q'⟩⟩
theorem i_enum {a : CE} {x : Str} {y : Expr} {p pos tpos : Pos} {elts : List Expr} {kk : Nat} (c : Ctx G S C Wx ea k X) (hx : x = "enumerate") (hf : freeB G S x = true) (hs : noStar y = true) (ha : PE X y (tE C X.K Wx ea false a)) :
    PI X (.Tuple elts kk tpos) (.Call (.Name x p) [y] [] pos) (tI C X.K Wx ea (.enum a)) := by
  subst hx
  unfold freeB at hf
  simp only [Bool.and_eq_true] at hf
  refine PI.by (pi_enumA (c.gl hf.1).1 (c.free _ hf.2) (pa_cons ha pa_nil (star_cons hs)) (star_cons hs)) fun σ H R h => ?_
  obtain ⟨W, e, s, Rs, En, h⟩ := h
  simp only [evI] at h
  refine ⟨W, e, s, Rs, En, (Sat.bind GE.gt GI.gt h).imp fun v H1 ⟨W1, s1, d1, g1, h1⟩ => ?_⟩
  split at h1
  · rename_i kq xs g q
    obtain ⟨p, vs, e1, sq⟩ := walkQ_of g1.st g1.rep q
    refine ⟨p, vs, by rw [e1], ?_⟩
    cases sq with
    | lst o q' h l hg => exact .inl ⟨h, h1 W1 H1 _ ⟨Pres.refl, g1.st, _, wd_enum (o := o) (fun _ z => by rw [hg]; exact z), q'⟩⟩
    | tup q' h l hg => exact .inr ⟨h, h1 W1 H1 _ ⟨Pres.refl, g1.st, _, wd_enumT, q'⟩⟩
  · exact h1.elim
theorem i_zip {a b : CE} {x : Str} {y z : Expr} {p pos tpos : Pos} {elts : List Expr} {kk : Nat} (c : Ctx G S C Wx ea k X) (hx : x = "zip") (hf : freeB G S x = true) (hs : noStar y = true) (hs2 : noStar z = true) (ha : PE X y (tE C X.K Wx ea false a)) (hb : PE X z (tE C X.K Wx ea false b)) :
    PI X (.Tuple elts kk tpos) (.Call (.Name x p) [y, z] [] pos) (tI C X.K Wx ea (.zip a b)) := by
  subst hx
  unfold freeB at hf
  simp only [Bool.and_eq_true] at hf
  refine PI.by (RZ.pi_zipA (c.gl hf.1).1 (c.free _ hf.2) (pa_cons ha (pa_cons hb pa_nil (star_cons hs2)) (star_cons hs)) (star_cons hs) (by rw [star_cons hs2]; rfl)) fun σ H R h => ?_
  obtain ⟨W, e, s, Rs, En, h⟩ := h
  simp only [evI] at h
  refine ⟨W, e, s, Rs, En, (Sat.bind GE.gt GI.gt h).imp fun v H1 ⟨W1, s1, d1, g1, h1⟩ => ?_⟩
  refine ⟨W1, e, s1, g1.st, En.pres g1.pres, (Sat.bind GE.gt GI.gt h1).imp fun w H2 ⟨W2, s2, d2, g2, h2⟩ => ?_⟩
  split at h2
  · rename_i k1 xs ga k2 ys gb q1 q2
    obtain ⟨p1, vs, e1, sq⟩ := walkQ_of g2.st (Rep.pres g2.pres g1.rep) q1
    obtain ⟨p2, ws, e2, sq2⟩ := walkQ_of g2.st g2.rep q2
    split at h2
    · rename_i hk
      subst hk
      refine ⟨p1, p2, vs, ws, by rw [e1, e2], ?_⟩
      cases sq with
      | lst o q h l hg =>
        cases sq2 with
        | lst o2 q2 h' l2 hg2 => exact .inl ⟨h, h', h2 W2 H2 _ ⟨Pres.refl, g2.st, _, wd_zip (o := o) (p := o2) (fun _ z => by rw [hg]; exact List.mem_append_left _ z) (fun _ z => by rw [hg2]; exact List.mem_append_right _ z), q, q2⟩⟩
      | tup q h l hg =>
        cases sq2 with
        | tup q2 h' l2 hg2 => exact .inr ⟨h, h', h2 W2 H2 _ ⟨Pres.refl, g2.st, _, wd_zipT, q, q2⟩⟩
    · exact h2.elim
  · exact h2.elim
theorem inR_of {i : Int} (h : inR i = true) : -(2 ^ 62) ≤ i ∧ i < 2 ^ 62 := by
  unfold inR at h
  exact of_decide_eq_true h
theorem i_range {es : CEs} {x : Str} {xs : List Expr} {p pos : Pos} (c : Ctx G S C Wx ea k X) (hx : x = "range") (hf : freeB G S x = true) (hc : chkEs G S es xs = true) (hl : xs.length ≤ 3) (ha : PA X xs (tA C X.K Wx ea es)) :
    PI X tg (.Call (.Name x p) xs [] pos) (tI C X.K Wx ea (.range es)) := by
  subst hx
  unfold freeB at hf
  simp only [Bool.and_eq_true] at hf
  have rd : ∀ (σ : L2.St) (H : Hp) (R : It → Hp → Prop), tI C X.K Wx ea (.range es) σ H R → tA C X.K Wx ea es σ H fun vs H1 => ∃ W1 s1 ds l, Pres W1 H1 W1 H1 ∧ RelSt X.K W1 s1 H1 ∧ Reps X.K W1 H1 ds vs ∧ vs.length = xs.length ∧ rngD ds = some l ∧ Sat X.K Wx ea σ (GI X.K) W1 H1 (.ok (l, []) s1) R := fun σ H R h => by
    obtain ⟨W, e, s, Rs, En, h⟩ := h
    simp only [evI] at h
    obtain ⟨W0, e0, s0, R0, En0, h0⟩ := t_args GI.gt hc Rs En h
    refine ⟨W0, e0, s0, R0, En0, h0.imp fun vs H1 ⟨W1, s1, ds, p1, r1, q1, l1, h1⟩ => ?_⟩
    cases q : rngD ds with
    | none => rw [q] at h1; exact h1.elim
    | some l => rw [q] at h1; exact ⟨W1, s1, ds, l, Pres.refl, r1, q1, l1, q, h1⟩
  have hs : ∀ (y : Expr) (ys : List Expr), xs = y :: ys → noStar y = true ∧ (backTo pos (starEach ys X.env)).any (·.1) = false := fun y ys e => by
    subst e
    cases es with
    | nil => simp [chkEs] at hc
    | cons a r => simp only [chkEs, Bool.and_eq_true] at hc; exact ⟨hc.1.1, star_any hc.2⟩
  match xs, hl, hc, ha, hs, rd with
  | [], _, hc, ha, hs, rd =>
    refine ⟨fun pins s σ H R I h => ?_⟩
    obtain ⟨W, e, st, Rs, En, h⟩ := h
    cases es with
    | nil => exact h.elim
    | cons a r => simp [chkEs] at hc
  | [y], _, hc, ha, hs, rd =>
    refine PI.by (pi_range1 (c.gl hf.1).1 (c.free _ hf.2) ha (star_cons (hs _ _ rfl).1)) fun σ H R h => ?_
    obtain ⟨W, e, s, Rs, En, h0⟩ := rd σ H R h
    refine ⟨W, e, s, Rs, En, h0.imp fun vs H1 ⟨W1, s1, ds, l, p1, r1, q1, l1, e1, h1⟩ => ?_⟩
    have hl := q1.length
    unfold rngD at e1
    split at e1
    · rename_i j
      split at e1
      · rename_i hj
        cases e1
        simp only [Reps, Rep] at q1
        obtain ⟨v, r, e2, e3, e4⟩ := q1
        subst e4 e2 e3
        exact ⟨j, rfl, (inR_of hj).1, (inR_of hj).2, h1 W1 H1 _ ⟨Pres.refl, r1, _, wd_range, trivial⟩⟩
      · cases e1
    · simp at hl l1; omega
    · simp at hl l1; omega
    · cases e1
  | [y, z], _, hc, ha, hs, rd =>
    have nz : noStar z = true := by
      cases es with
      | nil => simp [chkEs] at hc
      | cons a r =>
        simp only [chkEs, Bool.and_eq_true] at hc
        cases r with
        | nil => simp [chkEs] at hc
        | cons b r => simp only [chkEs, Bool.and_eq_true] at hc; exact hc.2.1.1
    refine PI.by (pi_range2 (c.gl hf.1).1 (c.free _ hf.2) ha (by rw [star_cons (hs _ _ rfl).1, star_cons nz]; rfl) (star_cons nz)) fun σ H R h => ?_
    obtain ⟨W, e, s, Rs, En, h0⟩ := rd σ H R h
    refine ⟨W, e, s, Rs, En, h0.imp fun vs H1 ⟨W1, s1, ds, l, p1, r1, q1, l1, e1, h1⟩ => ?_⟩
    have hl := q1.length
    unfold rngD at e1
    split at e1
    · simp at hl l1; omega
    · rename_i i j
      split at e1
      · rename_i hj
        simp only [Bool.and_eq_true] at hj
        cases e1
        simp only [Reps, Rep] at q1
        obtain ⟨v, r, e2, e3, v2, r2, e4, e5, e6⟩ := q1
        subst e6 e4 e2 e3 e5
        exact ⟨i, j, rfl, ⟨(inR_of hj.1).1, (inR_of hj.1).2, (inR_of hj.2).1, (inR_of hj.2).2⟩, h1 W1 H1 _ ⟨Pres.refl, r1, _, wd_range, trivial⟩⟩
      · cases e1
    · simp at hl l1; omega
    · cases e1
  | [y, z, u], _, hc, ha, hs, rd =>
    refine PI.by (pi_range3 (c.gl hf.1).1 (c.free _ hf.2) ha (star_cons (hs _ _ rfl).1) (hs _ _ rfl).2) fun σ H R h => ?_
    obtain ⟨W, e, s, Rs, En, h0⟩ := rd σ H R h
    refine ⟨W, e, s, Rs, En, h0.imp fun vs H1 ⟨W1, s1, ds, l, p1, r1, q1, l1, e1, h1⟩ => ?_⟩
    have hl := q1.length
    unfold rngD at e1
    split at e1
    · simp at hl l1; omega
    · simp at hl l1; omega
    · rename_i i j cc
      split at e1
      · rename_i hj
        simp only [Bool.and_eq_true, decide_eq_true_eq] at hj
        obtain ⟨⟨h1', h2'⟩, h3'⟩ := hj
        subst h3'
        cases e1
        simp only [Reps, Rep] at q1
        obtain ⟨v, r, e2, e3, v2, r2, e4, e5, v3, r3, e6, e7, e8⟩ := q1
        subst e8 e6 e4 e2 e3 e5 e7
        exact ⟨i, j, -1, _, rfl, RgC.neg (inR_of h1').1 (inR_of h1').2 (inR_of h2').1 (inR_of h2').2, h1 W1 H1 _ ⟨Pres.refl, r1, _, wd_rangeC, trivial⟩⟩
      · cases e1
    · cases e1
  | y :: z :: u :: w :: r, hl, _, _, _, _ => simp at hl
theorem i_revr1 {a : CE} {x x2 : Str} {y : Expr} {p p2 pos pos2 : Pos} (c : Ctx G S C Wx ea k X) (hx : x = "reversed") (hf : freeB G S x = true) (hx2 : x2 = "range") (hf2 : freeB G S x2 = true) (hs : noStar y = true) (ha : PE X y (tE C X.K Wx ea false a)) :
    PI X tg (.Call (.Name x p) [.Call (.Name x2 p2) [y] [] pos2] [] pos) (tI C X.K Wx ea (.revr (.cons a .nil))) := by
  subst hx hx2
  unfold freeB at hf hf2
  simp only [Bool.and_eq_true] at hf hf2
  refine PI.by (pi_revR (c.gl hf.1).1 (c.free _ hf.2) (prg_1 (c.gl hf2.1).1 (c.free _ hf2.2) ha (star_cons hs))) fun σ H R h => ?_
  obtain ⟨W, e, s, Rs, En, h⟩ := h
  simp only [evI, evEs, bind_assoc] at h
  refine ⟨W, e, s, Rs, En, (Sat.bind GE.gt GI.gt h).imp fun v H1 ⟨W1, s1, d1, g1, h1⟩ => ?_⟩
  simp only [Out.bind] at h1
  cases q : rrngD [d1] with
  | none => rw [q] at h1; exact h1.elim
  | some l =>
    rw [q] at h1
    unfold rrngD at q
    split at q
    · rename_i j e
      split at q
      · rename_i hj
        cases q
        cases e
        have hv : v = .int j := g1.rep
        refine ⟨j, hv, by decide, by decide, (inR_of hj).1, (inR_of hj).2, h1 W1 H1 _ ⟨Pres.refl, g1.st, (fun _ _ => True), ?_, trivial⟩⟩
        rw [show (0 : Int) + (((j - 0).toNat : Nat) : Int) - 1 = ((j.toNat : Nat) : Int) - 1 by rw [Int.sub_zero]; omega, show (j - 0).toNat = j.toNat by rw [Int.sub_zero]]
        exact wd_rangeC
      · cases q
    · rename_i e; cases e
    · cases q
theorem i_revr2 {a b : CE} {x x2 : Str} {y z : Expr} {p p2 pos pos2 : Pos} (c : Ctx G S C Wx ea k X) (hx : x = "reversed") (hf : freeB G S x = true) (hx2 : x2 = "range") (hf2 : freeB G S x2 = true) (hs : noStar y = true) (hs2 : noStar z = true) (ha : PE X y (tE C X.K Wx ea false a)) (hb : PE X z (tE C X.K Wx ea false b)) :
    PI X tg (.Call (.Name x p) [.Call (.Name x2 p2) [y, z] [] pos2] [] pos) (tI C X.K Wx ea (.revr (.cons a (.cons b .nil)))) := by
  subst hx hx2
  unfold freeB at hf hf2
  simp only [Bool.and_eq_true] at hf hf2
  refine PI.by (pi_revR (c.gl hf.1).1 (c.free _ hf.2) (prg_2 (c.gl hf2.1).1 (c.free _ hf2.2) ha hb (star_cons hs) (star_cons hs2) (by rw [star_cons hs2]; rfl))) fun σ H R h => ?_
  obtain ⟨W, e, s, Rs, En, h⟩ := h
  simp only [evI, evEs, bind_assoc] at h
  refine ⟨W, e, s, Rs, En, (Sat.bind GE.gt GI.gt h).imp fun v H1 ⟨W1, s1, d1, g1, h1⟩ => ?_⟩
  refine ⟨W1, e, s1, g1.st, En.pres g1.pres, (Sat.bind GE.gt GI.gt h1).imp fun w H2 ⟨W2, s2, d2, g2, h2⟩ => ?_⟩
  simp only [Out.bind] at h2
  cases q : rrngD [d1, d2] with
  | none => rw [q] at h2; exact h2.elim
  | some l =>
    rw [q] at h2
    unfold rrngD at q
    split at q
    · rename_i e; cases e
    · rename_i i j e
      split at q
      · rename_i hj
        simp only [Bool.and_eq_true] at hj
        cases q
        cases e
        have hv : v = .int i := g1.rep
        have hw : w = .int j := g2.rep
        exact ⟨i, j, hv, hw, (inR_of hj.1).1, (inR_of hj.1).2, (inR_of hj.2).1, (inR_of hj.2).2, h2 W2 H2 _ ⟨Pres.refl, g2.st, _, wd_rangeC, trivial⟩⟩
      · cases q
    · cases q
/-! ### targets -/
theorem noExc_exc {α : Type} {x : Out α} {k : Nat} {v : D} {s : Sto} : noExc x ≠ .exc k v s := by cases x <;> simp [noExc]
theorem putC_no {n : Nat} {c : D} {s : Sto} {k : Nat} {v : D} {s' : Sto} : putC n c s ≠ .exc k v s' := by unfold putC; split <;> simp
theorem setC_no {n : Nat} {i : Int} {d : D} {s : Sto} {k : Nat} {v : D} {s' : Sto} : setC n i d s ≠ .exc k v s' := by
  unfold setC
  split
  · split
    · exact putC_no
    · simp
  · simp
theorem bind_no {α β : Type} {x : Out α} {f : α → Sto → Out β} {k : Nat} {v : D} {s : Sto} (h1 : ∀ k v s, x ≠ .exc k v s) (h2 : ∀ a s1, f a s1 ≠ .exc k v s) : x.bind f ≠ .exc k v s := by
  cases x with
  | ok a s1 => exact h2 a s1
  | exc k v s => exact fun _ => h1 _ _ _ rfl
  | bad => simp [Out.bind]
mutual
theorem evT_no {c : Cl} : ∀ (t : Tg) (d : D) (e : En) (s : Sto) {k : Nat} {v : D} {s' : Sto}, evT c t d e s ≠ .exc k v s'
  | .nm i, d, e, s, k, v, s' => by simp [evT]
  | .tp ts, d, e, s, k, v, s' => by
    simp only [evT]
    split
    · exact evTs_no ts _ e s
    · exact evTs_no ts _ e s
    · simp
  | .sub o i, d, e, s, k, v, s' => by
    simp only [evT]
    refine bind_no (fun _ _ _ => noExc_exc) fun x s1 => ?_
    unfold onLoc
    split
    · refine bind_no (fun _ _ _ => noExc_exc) fun y s2 => ?_
      split
      · exact bind_no (fun _ _ _ => setC_no) fun _ _ => by simp
      · simp
    · simp
theorem evTs_no {c : Cl} : ∀ (t : Tgs) (d : List D) (e : En) (s : Sto) {k : Nat} {v : D} {s' : Sto}, evTs c t d e s ≠ .exc k v s'
  | .nil, [], e, s, k, v, s' => by simp [evTs]
  | .nil, _ :: _, e, s, k, v, s' => by simp [evTs]
  | .cons t r, [], e, s, k, v, s' => by simp [evTs]
  | .cons t r, d :: ds, e, s, k, v, s' => by
    simp only [evTs]
    exact bind_no (fun _ _ _ => evT_no t d e s) fun e1 s1 => evTs_no r ds e1 s1
end
theorem evTs_len {c : Cl} : ∀ {t : Tgs} {ds : List D} {e e' : En} {s s' : Sto} {xs : List Expr}, chkTs G S t xs = true → evTs c t ds e s = .ok e' s' → ds.length = xs.length
  | .nil, [], e, e', s, s', xs, h, q => by
    simp only [chkTs, List.isEmpty_iff] at h
    subst h
    rfl
  | .nil, _ :: _, e, e', s, s', xs, h, q => by simp [evTs] at q
  | .cons t r, [], e, e', s, s', xs, h, q => by simp [evTs] at q
  | .cons t r, d :: ds, e, e', s, s', xs, h, q => by
    cases xs with
    | nil => simp [chkTs] at h
    | cons x rest =>
      simp only [chkTs, Bool.and_eq_true] at h
      simp only [evTs] at q
      cases q1 : evT c t d e s with
      | ok e1 s1 =>
        rw [q1] at q
        simp only [Out.bind] at q
        rw [List.length_cons, List.length_cons, evTs_len h.2 q]
      | exc _ _ _ => rw [q1] at q; cases q
      | bad => rw [q1] at q; cases q
theorem Sat.noExc {K : PySem.W.Frag} {α β : Type} {G1 : Rl α β} {σ : L2.St} {W : Wd} {H : Hp} {x : Out α} {Q : β → Hp → Prop} (h : Sat K Wx ea σ G1 W H (Pv.noExc x) Q) : Sat K Wx' ea σ G1 W H x Q := by
  cases x with
  | ok a s => exact h
  | exc _ _ _ => exact h.elim
  | bad => exact h.elim
theorem RelEn.set {K : PySem.W.Frag} {W : Wd} {H : Hp} {e : En} {σ : L2.St} {d : D} {v : V} (En : RelEn K W H e σ) (r : Rep K W H d v) (i : Nat) : RelEn K W H (e.set i (some d)) (σ.set i (some v)) := by
  refine ⟨by rw [List.length_set, List.length_set]; exact En.1, fun j d' h => ?_⟩
  by_cases hj : i = j
  · subst hj
    have hi : i < e.length := by
      have := (List.getElem?_eq_some_iff.mp h).1
      rwa [List.length_set] at this
    rw [List.getElem?_set_self hi] at h
    cases h
    exact ⟨v, by rw [List.getElem?_set_self (by rw [← En.1]; exact hi)], r⟩
  · rw [List.getElem?_set_ne hj] at h
    obtain ⟨w, e1, r1⟩ := En.2 j d' h
    exact ⟨w, by rw [List.getElem?_set_ne hj]; exact e1, r1⟩
theorem g_nm {i : Nat} {x : Str} {pos : Pos} (c : Ctx G S C Wx ea k X) (hi : S.N[i]? = some x) (hs : stoB S x = true) : PG X (.Name x pos) (tG C X.K Wx' ea (.nm i)) := by
  have hl : locB S.sc x = true := by unfold stoB at hs; simp only [Bool.and_eq_true] at hs; exact hs.1
  refine PG.by (pg_name c.nd (by rw [c.N]; exact hi) (by rw [c.sc]; exact loc_of hl) (c.sto x hs)) fun v σ H Q h => ?_
  obtain ⟨W, e, s, d, R, En, r, h⟩ := h
  simp only [evT] at h
  refine h W H _ ⟨Pres.refl, R, En.set r i, List.length_set, fun j hj => ?_⟩
  simp only [tgSl, beq_eq_false_iff_ne] at hj
  rw [List.getElem?_set_ne hj]
theorem g_sub {o i : CE} {l r : Expr} {pos : Pos} (hn : noSlice r = true) (ho : PE X l (tE C X.K Wx ea false o)) (hi : PE X r (tE C X.K Wx ea false i)) : PG X (.Subscript l r pos) (tG C X.K Wx' ea (.sub o i)) := by
  refine PG.by (pg_sub ho hi set_D (fun v => by cases r <;> first | rfl | cases hn)) fun v σ H Q h => ?_
  obtain ⟨W, e, s, d, R, En, rv, h⟩ := h
  simp only [evT] at h
  refine ⟨W, e, s, R, En, ((Sat.bind GE.gt GN.gt h).noExc (Wx' := Wx)).imp fun x H1 ⟨W1, s1, d1, g1, h1⟩ => ?_⟩
  obtain ⟨n, e1, h1⟩ := h1.onLoc
  subst e1
  refine ⟨W1, e, s1, g1.st, En.pres g1.pres, ((Sat.bind GE.gt GN.gt h1).noExc (Wx' := Wx)).imp fun y H2 ⟨W2, s2, d2, g2, h2⟩ => ?_⟩
  cases d2 with
  | int kk =>
    simp only [setC] at h2
    split at h2
    · rename_i xs q
      split at h2
      · rename_i ys q2
        rcases putC_exc (n := n) (c := .lst ys) (s := s2) with ⟨s3, q3⟩ | q3
        · rw [q3] at h2
          refine ⟨W2, s2, n, kk, d, xs, ys, s3, (), g2.st, Rep.pres g2.pres g1.rep, g2.rep, Rep.pres (g1.pres.trans g2.pres) rv, q, q2, q3, fun H' c => ?_⟩
          exact h2 W2 H' σ ⟨c.pres, c.st, (En.pres (g1.pres.trans g2.pres)).pres c.pres, rfl, fun _ _ => rfl⟩
        · rw [q3] at h2; exact h2.elim
      · exact h2.elim
    · exact h2.elim
  | _ => exact h2.elim
theorem gs_nil : PGs X [] (tGs C X.K Wx ea .nil) := by
  refine ⟨fun pins s σ H vs us Q I r h => pgs_nil.run pins s σ H vs us Q I r ?_⟩
  obtain ⟨W, e, st, ds, R, En, rv, h⟩ := h
  cases ds with
  | nil =>
    simp only [Reps] at rv
    exact ⟨rv, h W H σ ⟨Pres.refl, R, En, rfl, fun _ _ => rfl⟩⟩
  | cons d ds => exact h.elim
theorem assign_cons {x : Expr} {xs : List Expr} {env : Env} (h : noStar x = true) : assignEach (x :: xs) env = (false, assign x env) :: assignEach xs env := by
  cases x <;> first | rfl | cases h
theorem gs_cons {t : Tg} {r : Tgs} {x : Expr} {rest : List Expr} (hs : noStar x = true) (h1 : PG X x (tG C X.K Wx ea t)) (h2 : PGs X rest (tGs C X.K Wx ea r)) : PGs X (x :: rest) (tGs C X.K Wx ea (.cons t r)) := by
  refine ⟨fun pins s σ H vs us Q I rr h => (pgs_cons h1 h2 (by rw [assign_cons hs]; rfl)).run pins s σ H vs us Q I rr ?_⟩
  obtain ⟨W, e, st, ds, R, En, rv, h⟩ := h
  cases ds with
  | nil => exact h.elim
  | cons d ds =>
    simp only [Reps] at rv
    obtain ⟨v, vr, e1, r1, r2⟩ := rv
    refine ⟨v, vr, e1, W, e, st, d, R, En, r1, ?_⟩
    simp only [evTs] at h
    refine (Sat.bind (G1 := GN X.K σ (tgSl t)) GN.gt GN.gt h).imp fun σ1 H1 ⟨W1, s1, e1, g, h1⟩ => ?_
    refine ⟨W1, e1, s1, ds, g.2.1, g.2.2.1, Reps.pres g.1 r2, ?_⟩
    cases q : evTs C r ds e1 s1 with
    | bad => rw [q] at h1; exact h1.elim
    | exc _ _ _ => exact absurd q (evTs_no r ds e1 s1)
    | ok e2 s2 =>
      rw [q] at h1
      intro W' H' σ2 g2
      refine h1 W' H' σ2 ⟨g2.1, g2.2.1, g2.2.2.1, g2.2.2.2.1.trans g.2.2.2.1, fun j hj => ?_⟩
      simp only [tgsSl, Bool.or_eq_false_iff] at hj
      rw [g2.2.2.2.2 j hj.2, g.2.2.2.2 j hj.1]
theorem assign_len : ∀ {t : Tgs} {xs : List Expr} {env : Env}, chkTs G S t xs = true → (assignEach xs env).length = xs.length ∧ (assignEach xs env).findIdx? (·.1) = none
  | .nil, xs, env, h => by
    simp only [chkTs, List.isEmpty_iff] at h
    subst h
    exact ⟨rfl, rfl⟩
  | .cons t r, xs, env, h => by
    cases xs with
    | nil => simp [chkTs] at h
    | cons x rest =>
      simp only [chkTs, Bool.and_eq_true] at h
      obtain ⟨e1, e2⟩ := assign_len (env := env) h.2
      rw [assign_cons h.1.1]
      refine ⟨by rw [List.length_cons, List.length_cons, e1], ?_⟩
      rw [List.findIdx?_cons]
      simp [e2]
theorem g_tp {ts : Tgs} {xs : List Expr} {n : Nat} {pos : Pos} (hc : X.calm = true) (hx : chkTs G S ts xs = true) (h : PGs X xs (tGs C X.K Wx ea ts)) : PG X (.Tuple xs n pos) (tG C X.K Wx ea (.tp ts)) := by
  obtain ⟨hl, hf⟩ := assign_len (env := X.env) hx
  refine ⟨fun pins s σ H v u Q I r w => ?_⟩
  obtain ⟨W, e, st, d, R, En, rv, w⟩ := w
  simp only [evT] at w
  have fin : ∀ {ds : List D} {vs : List V}, Reps X.K W H ds vs → Sat X.K Wx ea σ (GN X.K σ (tgSl (.tp ts))) W H (evTs C ts ds e st) Q → vs.length = xs.length ∧ tGs C X.K Wx ea ts vs σ H Q := fun {ds vs} r w => by
    cases q : evTs C ts ds e st with
    | bad => rw [q] at w; exact w.elim
    | exc _ _ _ => exact absurd q (evTs_no ts ds e st)
    | ok e2 s2 =>
      refine ⟨by rw [← r.length]; exact evTs_len hx q, W, e, st, ds, R, En, r, ?_⟩
      exact w
  split at w
  · rename_i ds q
    obtain ⟨p, vs, e1, t, r1⟩ := rd_tup R rv q
    obtain ⟨l1, w1⟩ := fin r1 w
    exact (pg_tup hc h hl hf).run pins s σ H v u Q I r ⟨p, vs, e1, t, l1, w1⟩
  · rename_i ds q
    obtain ⟨p, vs, e1, t, r1⟩ := rd_lst R rv q
    obtain ⟨l1, w1⟩ := fin r1 w
    exact (pg_lst hc h hl hf).run pins s σ H v u Q I r ⟨p, vs, e1, t, l1, w1⟩
  · exact w.elim
end
end Pv
end
section
set_option maxRecDepth 100000
set_option maxHeartbeats 4000000
namespace Pv
open PySem PySem.Spec PyProof.Rows L2
section
variable {K : PySem.W.Frag} {W W' W1 W2 : Wd} {H H' H1 H2 : Hp} {s s' : Sto} {p : Addr}
/-- what was known ahead of a list that nothing names -/
theorem keeps_new {b : Nat} (q : Pres W1 H1 W' H') (h : H1 p = none) : Keeps K W1 H1 (W'.avo p) H' b :=
  ⟨fun _ _ => SqT.pres q, fun a xs z => by
    rcases z with z | ⟨o, z⟩ | z
    · have hne : a ≠ p := ne_of_none z.1 h
      rcases LstAt.pres (K := K) q (.inl z) with ⟨z1, z2, z3⟩ | z1 | z1
      · refine .inl ⟨z1, z2, fun hin => ?_⟩
        rcases List.mem_cons.mp hin with e | e
        · exact hne e
        · exact z3 e
      · exact .inr (.inl z1)
      · exact .inr (.inr z1)
    · exact .inr (.inl ⟨o, q.keep _ _ z (fun m => m.elim) (fun _ z => nomatch z)⟩)
    · exact .inr (.inr z), fun n a _ z => show W'.rho[n]? = some a from ext_get q z⟩
theorem RelEn.by {b : Nat} {e : En} {σ : L2.St} (h : RelEn K W H e σ) (hb : b = W.rho.length) (k : Keeps K W H W' H' b) : RelEn K W' H' e σ :=
  ⟨h.1, fun i d q => let ⟨v, a, r⟩ := h.2 i d q; ⟨v, a, Rep.by k d (by rw [hb]; exact rep_below d r) r⟩⟩
theorem RelEn.wipe {e : En} {σ : L2.St} (h : RelEn K W H e σ) : ∀ own : List (Str × Nat), RelEn K W H (wipeE e own) (L2.wipe σ (own.map (·.2)))
  | [] => h
  | v :: vs => by
    have ih := h.wipe vs
    simp only [wipeE, List.map_cons, L2.wipe]
    refine ⟨by rw [List.length_set, List.length_set]; exact ih.1, fun j d q => ?_⟩
    by_cases hj : v.2 = j
    · subst hj
      have hi : v.2 < (wipeE e vs).length := by
        have := (List.getElem?_eq_some_iff.mp q).1
        rwa [List.length_set] at this
      rw [List.getElem?_set_self hi] at q
      cases q
    · rw [List.getElem?_set_ne hj] at q
      obtain ⟨w, e1, r1⟩ := ih.2 j d q
      exact ⟨w, by rw [List.getElem?_set_ne hj]; exact e1, r1⟩
/-- the list that nothing names changes -/
theorem avo_upd {b : Nat} {vs ws : List V} (h : H p = some (.lst vs)) : Keeps K (W.avo p) H (W.avo p) (upd H p (.lst ws)) b := by
  have tq : ∀ a o, (∀ zs, o ≠ .lst zs) → H a = some o → upd H p (.lst ws) a = some o := fun a o hn z => by
    have : a ≠ p := fun e => by subst e; rw [h] at z; cases z; exact hn _ rfl
    rw [upd_ne this]; exact z
  refine ⟨fun a xs z => ?_, fun a xs z => ?_, fun _ _ _ z => z⟩
  · rcases z with (z | ⟨o, z⟩) | z
    · exact .inl (.inl (tq a _ (fun _ e => nomatch e) z))
    · exact .inl (.inr ⟨o, tq a _ (fun _ e => nomatch e) z⟩)
    · exact .inr z
  · rcases z with ⟨z1, z2, z3⟩ | ⟨o, z⟩ | z
    · have : a ≠ p := fun e => z3 (by rw [e]; exact List.mem_cons_self)
      exact .inl ⟨by rw [upd_ne this]; exact z1, z2, z3⟩
    · exact .inr (.inl ⟨o, tq a _ (fun _ e => nomatch e) z⟩)
    · exact .inr (.inr z)
theorem RelSt.upd_avo {vs ws : List V} (R : RelSt K (W.avo p) s H) (h : H p = some (.lst vs)) : RelSt K (W.avo p) s (upd H p (.lst ws)) := by
  have hp := R.avd p List.mem_cons_self
  refine ⟨R.len, R.nd, fun a q => ⟨?_, (R.avd a q).2⟩, fun n a q => ?_, tabs_put h R.tabs⟩
  · by_cases e : a = p
    · subst e; exact ⟨_, upd_same, fun _ z => nomatch z⟩
    · obtain ⟨o, e1, e2⟩ := (R.avd a q).1
      exact ⟨o, by rw [upd_ne e]; exact e1, e2⟩
  · obtain ⟨ds, vs', e1, e2, e3, e4⟩ := R.cell n a q
    have : a ≠ p := fun e => hp.2 (by rw [← e]; exact List.mem_of_getElem? q)
    exact ⟨ds, vs', e1, by rw [upd_ne this]; exact e2, Reps.by (avo_upd h) ds (reps_below ds e3) e3, e4⟩
theorem Pres.upd_none {ws : List V} (q : Pres W1 H1 W' H') (h : H1 p = none) : Pres W1 H1 W' (upd H' p (.lst ws)) := by
  refine ⟨q.av, q.ext, fun a o e m t => ?_, fun a e => ?_⟩
  · rw [upd_ne (ne_of_none e h)]; exact q.keep a o e m t
  · by_cases z : a = p
    · subst z; exact ⟨_, upd_same, fun _ z => nomatch z⟩
    · obtain ⟨o, e1, e2⟩ := q.dom a e
      exact ⟨o, by rw [upd_ne z]; exact e1, e2⟩
end
section
variable {G : GC} {S : SX} {C : Cl} {Wx : WX} {ea : Nat → Addr} {k : Nat} {X : Cx}
mutual
theorem tgIn_sl {ix : List Nat} : ∀ {t : Tg} {j : Nat}, tgIn ix t = true → j ∉ ix → tgSl t j = false
  | .nm i, j, h, hj => by
    simp only [tgIn, List.contains_iff_mem] at h
    simp only [tgSl, beq_eq_false_iff_ne]
    exact fun e => hj (by rw [← e]; exact h)
  | .tp ts, j, h, hj => by simp only [tgIn] at h; simp only [tgSl]; exact tgsIn_sl h hj
  | .sub _ _, j, h, hj => by simp [tgIn] at h
theorem tgsIn_sl {ix : List Nat} : ∀ {t : Tgs} {j : Nat}, tgsIn ix t = true → j ∉ ix → tgsSl t j = false
  | .nil, j, h, hj => rfl
  | .cons t r, j, h, hj => by
    simp only [tgsIn, Bool.and_eq_true] at h
    simp only [tgsSl, Bool.or_eq_false_iff]
    exact ⟨tgIn_sl h.1 hj, tgsIn_sl h.2 hj⟩
end
theorem wipe_in {σ : L2.St} {i : Nat} : ∀ {vs : List Nat}, i ∈ vs → i < σ.length → (L2.wipe σ vs)[i]? = some none
  | [], h, _ => by simp at h
  | v :: vs, h, hi => by
    unfold L2.wipe
    by_cases e : v = i
    · subst e
      rw [List.getElem?_set_self (by rw [wipe_length]; exact hi)]
    · rw [List.getElem?_set_ne e]
      exact wipe_in (by rcases List.mem_cons.mp h with z | z; exact absurd z.symm e; exact z) hi
/-- stores into the block's own names alone: wiped, the slots are as before -/
theorem wipe_eq {σ σ2 : L2.St} {vs : List Nat} (hl : σ2.length = (L2.wipe σ vs).length) (h : ∀ j, j ∉ vs → σ2[j]? = (L2.wipe σ vs)[j]?) : L2.wipe σ2 vs = L2.wipe σ vs := by
  rw [wipe_length] at hl
  refine List.ext_getElem? fun j => ?_
  by_cases hj : j ∈ vs
  · by_cases hlt : j < σ.length
    · rw [wipe_in hj hlt, wipe_in hj (by omega)]
    · rw [List.getElem?_eq_none (by rw [wipe_length]; omega), List.getElem?_eq_none (by rw [wipe_length]; omega)]
  · rw [wipe_out hj, h j hj, wipe_out hj]
theorem t_comp {own : List (Str × Nat)} {tg : Tg} {it : CI} {ifs : CEs} {elt : CE} {fr : Bool} {σ : L2.St} {H : Hp} {Q : VK} (ht : tgIn (own.map (·.2)) tg = true)
    (h : tE C X.K Wx ea fr (.comp own tg it ifs elt) σ H Q) : tLc (tI C X.K Wx ea it) (tG C X.K (fun _ _ _ _ => False) ea tg) (tF C X.K (fun _ _ _ _ => False) ea ifs) (tE C X.K (fun _ _ _ _ => False) ea false elt) (own.map (·.2)) σ H Q := by
  obtain ⟨W, e, s, R, En, h⟩ := h
  simp only [evE] at h
  refine ⟨W, e, s, R, En, (Sat.bind GI.gt GE.gt h).imp fun J H1 ⟨W1, s1, w, g1, h1⟩ => ?_⟩
  obtain ⟨ds, gd⟩ := w
  obtain ⟨p1, R1, Sq, wd, sq⟩ := g1
  have En1 := En.pres p1
  simp only at h1
  generalize hb : (fun (d : D) (s : Sto) => (evT C tg d (wipeE e own) s).bind fun e1 s => (evIf C ifs e1 s).bind fun k s =>
      if k = true then (evE C elt e1 s).bind fun y s => .ok (some y) s else .ok none s) = body at h1
  have hbd : ∀ (d : Pv.D) (s : Sto), body d s = (evT C tg d (wipeE e own) s).bind fun e1 s => (evIf C ifs e1 s).bind fun k s =>
      if k = true then (evE C elt e1 s).bind fun y s => .ok (some y) s else .ok none s := fun d s => by rw [← hb]
  clear hb
  intro D hD
  cases ql : loopC body gd ds s1 with
  | bad => rw [ql] at h1; exact h1.elim
  | exc _ _ _ => rw [ql] at h1; exact h1.elim
  | ok ys sf =>
    rw [ql] at h1
    simp only [noExc, Out.bind] at h1
    split at h1
    case isFalse => exact h1.elim
    rename_i hbig
    refine ⟨fun i m H2 => m = ds.length - i ∧ i ≤ ds.length ∧ ∃ W2 s2 acc vs ys2, Pres W1 H1 W2 H2 ∧ RelSt X.K (W2.avo D) s2 H2 ∧ H2 D = some (.lst vs) ∧ Reps X.K (W2.avo D) H2 acc vs ∧ loopC body gd (ds.drop i) s2 = .ok ys2 sf ∧ acc ++ ys2 = ys,
      ⟨ds.length, by simp, Nat.zero_le _, W1, s1, [], [], ys, Pres.new hD, R1.avo hD (fun _ z => nomatch z), upd_same, rfl, ql, rfl⟩, ?_⟩
    rintro i m H2 ⟨rfl, hi, W2, s2, acc, vs, ys2, p2, R2, hv, rv, l2, ea2⟩
    have sq2 : Sq (W2.avo D) H2 := wd.mono (keeps_new p2 hD) sq
    by_cases hlt : i < ds.length
    · -- a turn
      right
      rw [List.drop_eq_getElem_cons hlt] at l2
      simp only [loopC] at l2
      split at l2
      case isFalse => cases l2
      rename_i hg
      refine ⟨wd.go i _ s2 H2 hlt R2 hg sq2, fun H3 => ∃ W3 s3 acc vs ys3, Pres W1 H1 W3 H3 ∧ RelSt X.K (W3.avo D) s3 H3 ∧ H3 D = some (.lst vs) ∧ Reps X.K (W3.avo D) H3 acc vs ∧ loopC body gd (ds.drop (i + 1)) s3 = .ok ys3 sf ∧ acc ++ ys3 = ys,
        fun H3 nx => ⟨ds.length - (i + 1), by omega, rfl, hlt, nx⟩, fun x H3 y3 => ?_⟩
      obtain ⟨d, ed, p3, R3, r3⟩ := wd.yld i _ s2 H2 x H3 hlt R2 hg sq2 y3
      rw [List.getElem?_eq_getElem hlt] at ed
      cases ed
      rw [hbd] at l2
      cases q1 : evT C tg ds[i] (wipeE e own) s2 with
      | bad => rw [q1] at l2; cases l2
      | exc _ _ _ => rw [q1] at l2; cases l2
      | ok e1 t1 =>
        rw [q1] at l2
        simp only [Out.bind] at l2
        have En3 : RelEn X.K (W2.avo D) H3 (wipeE e own) (L2.wipe σ (own.map (·.2))) := ((En1.by rfl (keeps_new p2 hD)).pres p3).wipe own
        refine ⟨W2.avo D, wipeE e own, s2, ds[i], R3, En3, r3, ?_⟩
        rw [q1]
        rintro W4 H4 σ4 ⟨p4, R4, En4, l4, n4⟩
        refine ⟨wipe_eq l4 fun j hj => n4 j (tgIn_sl ht hj), W4, e1, t1, R4, En4, ?_⟩
        cases q2 : evIf C ifs e1 t1 with
        | bad => rw [q2] at l2; cases l2
        | exc _ _ _ => rw [q2] at l2; cases l2
        | ok kk t2 =>
          rw [q2] at l2
          rintro W5 H5 b5 ⟨p5, R5, rfl⟩
          have p05 : Pres (W2.avo D) H2 W5 H5 := p3.trans (p4.trans p5)
          have kv : ∀ {W6 H6}, Pres (W2.avo D) H2 W6 H6 → H6 D = some (.lst vs) := fun {W6 H6} p => p.keep D _ hv (fun _ => (R2.avd D List.mem_cons_self).2) (fun _ z => nomatch z)
          cases kk with
          | false =>
            simp only [Bool.false_eq_true, if_false] at l2 ⊢
            obtain ⟨W5', rfl, p5'⟩ := p05.of_avo
            cases q3 : loopC body gd (ds.drop (i + 1)) t2 with
            | bad => rw [q3] at l2; cases l2
            | exc _ _ _ => rw [q3] at l2; cases l2
            | ok ys3 t3 =>
              rw [q3] at l2
              cases l2
              exact ⟨W5', t2, acc, vs, _, p2.trans p5', R5, kv p05, Reps.pres p05 rv, q3, ea2⟩
          | true =>
            simp only [if_true] at l2 ⊢
            refine ⟨W5, e1, t2, R5, En4.pres p5, ?_⟩
            cases q4 : evE C elt e1 t2 with
            | bad => rw [q4] at l2; cases l2
            | exc _ _ _ => rw [q4] at l2; cases l2
            | ok yd t4 =>
              rw [q4] at l2
              simp only [Out.bind] at l2
              rintro W6 H6 yv g6
              have p06 := p05.trans g6.pres
              obtain ⟨W6', rfl, p6'⟩ := p06.of_avo
              cases q3 : loopC body gd (ds.drop (i + 1)) t4 with
              | bad => rw [q3] at l2; cases l2
              | exc _ _ _ => rw [q3] at l2; cases l2
              | ok ys3 t3 =>
                rw [q3] at l2
                cases l2
                have rv6 := Reps.pres p06 rv
                have hv6 := kv p06
                have hl := rv6.length
                have hlen : acc.length < big := by
                  have : (acc ++ yd :: ys3).length ≤ big := by rw [ea2]; exact hbig
                  simp only [List.length_append, List.length_cons] at this
                  omega
                refine ⟨vs, hv6, by rw [← big_eq, ← hl]; exact hlen, W6', t4, acc ++ [yd], vs ++ [yv], ys3, (p2.trans p6').upd_none hD, g6.st.upd_avo hv6, upd_same, ?_, q3, by rw [← ea2]; simp⟩
                have ra := rv6.append (Reps.one g6.rep)
                exact Reps.by (avo_upd hv6) _ (reps_below _ ra) ra
    · -- the end
      left
      have ei : i = ds.length := by omega
      subst ei
      rw [List.drop_length] at l2
      simp only [loopC] at l2
      split at l2
      case isFalse => cases l2
      rename_i hg
      cases l2
      refine ⟨wd.stop _ sf H2 R2 hg sq2, ?_⟩
      rw [List.append_nil] at ea2
      subst ea2
      have ow : Own X.K W2 sf H2 D acc vs := ⟨hv, fun z => R1.not_av hD (by rw [← p2.av]; exact z), R2, rv⟩
      exact h1 W2 H2 (.ref D) ⟨p2, R2.unavo, ow.rep, fun _ ds' e => by cases e; exact ⟨D, vs, rfl, Ob.no hD, ow⟩⟩
theorem chkI_set {it : CI} {x : Expr} (h : chkI G S it x = true) : noSet x = true := by
  cases it with
  | of a => simp only [chkI, Bool.and_eq_true] at h; exact h.1
  | _ =>
    cases x with
    | Set _ _ _ => simp [chkI] at h
    | _ => rfl
theorem noSet_fold {x : Expr} {env : Env} (h : noSet x = true) : ∀ v, foldedSetIterable x env v = pure v := by
  intro v
  cases x <;> first | rfl | cases h
end
end Pv
end
section
set_option maxRecDepth 100000
set_option maxHeartbeats 4000000
namespace Pv
open PySem PySem.Spec PyProof.Rows L2
/-! ### calls that leave out arguments with defaults -/
section
variable {X : Cx} {CX : CXT} {k : Nat} {f : Addr} {fd : FuncData} {ps : List Str} {sp : Sp} {E : L2.St → XK}
theorem run_dflt {pins : List (Addr × Obj)} {σ : L2.St} {H : Hp} {s : Shared} {Q : VK} {as us : List Value} {vs ws : List V} (F : FnOk X.prog X.w X.K X.mg X.base CX k f fd ps sp) (hr : Room k X.A)
    (hb : Binds X.K fd ps us) (hd : Vals ws us) (hx : PassesAt CX X σ (E σ)) (I : Inv X pins σ H s) (r : Vals vs as) (h : sp (vs ++ ws) H Q (E σ)) :
    wpAny (model X.prog X.w) X.A (call (.ref f) as) (EP X pins σ Q) X.xe s := by
  have rr : Vals (vs ++ ws) (as ++ us) := r.append hd
  have len : (as ++ us).length = ps.length := rr.length.symm.trans (F.len _ _ _ _ h)
  have bd := hb s as I.kIn len
  refine wpAny_call (codeAny_mono (F.run X.A X.stack s H ⟨as, []⟩ (as ++ us) (vs ++ ws) Q (E σ) hr I.env0 bd rr h) fun out s' hq => ?_)
  match out, hq with
  | .error e, hq => exact hx pins H s e s' I hq
  | .ok (.ret u), hq => exact I.after hq
  | .ok .next, hq => exact False.elim hq
  | .ok .brk, hq => exact False.elim hq
  | .ok .cont, hq => exact False.elim hq
def tCallD (sp : Sp) (E : L2.St → XK) (ws : List V) (t : TA) : TE := fun σ H Q => t σ H fun vs H1 => sp (vs ++ ws) H1 Q (E σ)
theorem pe_dflt {x : Str} {p pos : Pos} {e : Expr} {es : List Expr} {t : TA} {us : List Value} {ws : List V} (F : FnOk X.prog X.w X.K X.mg X.base CX k f fd ps sp) (hr : Room k X.A) (hg : Gl X x) (hm : X.mg x = some (.ref f)) (hk : PySem.W.keepIn X.K (.ref f) = true)
    (hb : Binds X.K fd ps us) (hd : Vals ws us) (hx : ∀ σ, PassesAt CX X σ (E σ)) (ha : PA X (e :: es) t) (hdb : (x == ("__debug__" : Str)) = false) (he : starEach (e :: es) X.env = (false, eval e X.env) :: starEach es X.env)
    (hpl : (backTo pos (starEach es X.env)).any (·.1) = false) : PE X (.Call (.Name x p) (e :: es) [] pos) (tCallD sp E ws t) := by
  refine ⟨fun pins s σ H Q I h => wpAny_Call_Name_kw (ld_glob I hg hm ?_ hdb)⟩
  exact PySem.W.callWith_K (h₀ := X.base) I.ok.mod.kin hk (thn (ha.run pos pins s σ H _ I h) fun as s1 ⟨vs, H1, I1, r, q⟩ => ⟨I1.kIn, run_dflt F hr hb hd (hx σ) I1 r q⟩) he hpl
end
section
variable {G : GC} {S : SX} {C : Cl} {Wx : WX} {ea : Nat → Addr} {k : Nat} {X : Cx}
theorem Reps.lits {K : PySem.W.Frag} {W : Wd} {H : Hp} : ∀ {ds : List D}, ds.all isLit = true → Reps K W H ds (ds.map litV)
  | [], _ => rfl
  | d :: r, h => by
    simp only [List.all_cons, Bool.and_eq_true] at h
    exact ⟨_, _, rfl, litV_rep h.1, Reps.lits h.2⟩
theorem e_callD {f : Nat} {es : CEs} {ds : List D} {x : Str} {xs : List Expr} {p pos : Pos} {fr : Bool} (c : Ctx G S C Wx ea k X) (hf : G.fns[f]? = some x) (hg : glB S.sc x = true) (hne : xs.isEmpty = false) (hx : chkEs G S es xs = true)
    (hd : sames ds ((G.dfl.getD f []).drop ((G.dfl.getD f []).length - ds.length)) = true) (hr : fr = true → frOf G f = true) (ha : PA X xs (tA C X.K Wx ea es)) :
    PE X (.Call (.Name x p) xs [] pos) (tE C X.K Wx ea fr (.callD f es ds)) := by
  obtain ⟨fa, fd, ps, hm, hk, _, F, hlen, hdf⟩ := c.fns f x hf
  by_cases hle : ds.length ≤ ps.length
  case neg =>
    have no : ∀ (xs : List D) (s : Sto), C.fn f (xs ++ ds) s = .bad := fun xs s => hlen _ s (by rw [List.length_append]; omega)
    obtain ⟨us, hb, hv, hl⟩ : ∃ us : List Value, True ∧ True ∧ True := ⟨[], trivial, trivial, trivial⟩
    cases xs with
    | nil => cases hne
    | cons y ys =>
      have hs : noStar y = true ∧ ∃ a r, es = .cons a r ∧ chkEs G S r ys = true := by
        cases es with
        | nil => simp [chkEs] at hx
        | cons a r => simp only [chkEs, Bool.and_eq_true] at hx; exact ⟨hx.1.1, a, r, rfl, hx.2⟩
      obtain ⟨hs, a0, r0, _, hx0⟩ := hs
      obtain ⟨fa', fd', ps', hm', hk', hb', F', _⟩ := c.fns f x hf
      refine PE.by (pe_callS F' c.room (c.gl hg).1 hm' hk' hb' (E := WE Wx) (fun σ => passAt c.tk σ) ha (c.gl hg).2.1 (star_cons hs) (star_any hx0)) fun σ H Q h => ?_
      obtain ⟨W, e, s, R, En, h⟩ := h
      simp only [evE] at h
      obtain ⟨W0, e0, s0, R0, En0, h0⟩ := t_args GE.gt hx R En h
      refine ⟨W0, e0, s0, R0, En0, h0.imp fun vs H1 ⟨W1, s1, ds', p1, r1, q1, l1, h1⟩ => ?_⟩
      rw [no] at h1
      exact h1.elim
  obtain ⟨us, hb, hv, hl⟩ := hdf ds hd hle
  cases xs with
  | nil => cases hne
  | cons y ys =>
    have hs : noStar y = true ∧ ∃ a r, es = .cons a r ∧ chkEs G S r ys = true := by
      cases es with
      | nil => simp [chkEs] at hx
      | cons a r => simp only [chkEs, Bool.and_eq_true] at hx; exact ⟨hx.1.1, a, r, rfl, hx.2⟩
    obtain ⟨hs, a0, r0, _, hx0⟩ := hs
    refine PE.by (pe_dflt F c.room (c.gl hg).1 hm hk hb hv (E := WE Wx) (fun σ => passAt c.tk σ) ha (c.gl hg).2.1 (star_cons hs) (star_any hx0)) fun σ H Q h => ?_
    obtain ⟨W, e, s, R, En, h⟩ := h
    simp only [evE] at h
    obtain ⟨W0, e0, s0, R0, En0, h0⟩ := t_args GE.gt hx R En h
    refine ⟨W0, e0, s0, R0, En0, h0.imp fun vs H1 ⟨W1, s1, ds', p1, r1, q1, l1, h1⟩ => ?_⟩
    have q2 : Reps X.K W1 H1 (ds' ++ ds) (vs ++ ds.map litV) := Reps.append q1 (Reps.lits hl)
    have hlen2 : (ds' ++ ds).length = ps.length := by
      by_cases z : (ds' ++ ds).length = ps.length
      · exact z
      · rw [hlen _ s1 z] at h1; exact h1.elim
    refine ⟨W1, s1, ds' ++ ds, r1, q2, hlen2, ?_⟩
    cases q : C.fn f (ds' ++ ds) s1 with
    | ok d s2 =>
      rw [q] at h1
      exact fun H' v g => h1 W1 H' v ⟨g.pres, g.st, g.rep, fun z => g.own (hr z)⟩
    | exc kk v s2 =>
      rw [q] at h1
      exact ⟨h1.1, fun H' p2 r2 => h1.2 W1 H' p2 r2⟩
    | bad => rw [q] at h1; exact h1.elim
/-! ### a lambda handed to a def that looks what it raises -/
/-- tables alone have grown -/
theorem pres_ext {W : Wd} {H H1 : Hp} (e : LamX.ExtN H H1) : Pres W H W H1 :=
  ⟨rfl, ⟨[], by simp, by simp⟩, fun a o h _ t => e a o h t, fun a ⟨o, h, t⟩ => ⟨o, e a o h t, t⟩⟩
theorem RelSt.grown {K : PySem.W.Frag} {W : Wd} {s : Sto} {H H1 : Hp} (R : RelSt K W s H) (e : LamX.ExtN H H1) (t : LamX.Tabs (TK K) H1) : RelSt K W s H1 :=
  ⟨R.len, R.nd, fun a q => ⟨(pres_ext (W := W) e).dom a (R.avd a q).1, (R.avd a q).2⟩, fun n a q => by
    obtain ⟨ds, vs, e1, e2, e3, e4⟩ := R.cell n a q
    exact ⟨ds, vs, e1, e _ _ e2 (fun _ z => nomatch z), Reps.pres (pres_ext e) e3, e4⟩, t⟩
theorem noPar_eq {ar : Arguments} (h : noPar ar = true) : ar = ⟨[], [], none, [], [], none, []⟩ := by
  unfold noPar at h
  split at h
  · rfl
  · cases h
/-- where a lambda's body stands -/
theorem lam_ctx (c : Ctx G S C Wx ea k X) {scope : Scope} (L : LamX.LamS X.env.scope scope) {A : Around} {outer : List Env} {s : Shared} {H : Hp} {E : XK} {f c' : Addr} (hr : Room k (A.deeper (LamX.lamEnv X scope s.heap.objs.size f c'))) :
    Ctx G ⟨S.N, scope, none, false⟩ C (fun cls d _ H => E cls d H) ea k (LamX.lamCx X A outer s H E scope f c') := by
  refine ⟨c.N, c.nd, rfl, rfl, hr, takes_of rfl rfl rfl rfl, fun x h => ?_, c.cons, c.free, c.mods, c.fns, c.exc, c.lams, fun z => nomatch z⟩
  unfold stoB at h
  simp only [Bool.and_eq_true] at h
  have h1 : Loc scope x := loc_of h.1
  rcases h1 with q | q
  · exact absurd rfl (L.own _ (PySem.mem_of_lookup q)).1
  · exact absurd rfl (L.own _ (PySem.mem_of_lookup q)).2
theorem e_tryL {d : D} {tb : List (Nat × D)} {b : CE} {x : Str} {ar : Arguments} {body : Expr} {scope : Scope} {p lpos pos : Pos} (c : Ctx G S C Wx ea k X) (hl : S.lam = true) (hg : glB S.sc x = true) (hp : noPar ar = true) (hs : lamS S.sc scope = true) (hf : lamF G.lams x d tb = true)
    (hb : ∀ (E : XK) (X' : Cx), Ctx G ⟨S.N, scope, none, false⟩ C (fun cls d _ H => E cls d H) ea k X' → PE X' body (tE C X'.K (fun cls d _ H => E cls d H) ea false b)) :
    PE X (.Call (.Name x p) [.Lambda ar body scope lpos] [] pos) (tE C X.K Wx ea false (.tryL d tb b)) := by
  cases noPar_eq hp
  obtain ⟨⟨a, g, pg, bg, sg, dV, kV, doc, pm, cdv, ct, oc, an, od, osl, Ng, m1, m2, m3, m4, m5, m6, m7, m8, m9, m10, gv⟩, i1, i2⟩ := c.lams x d tb hf
  obtain ⟨room, cc, P, TB, hcode, hmT, hu⟩ := c.lam hl
  have L : LamX.LamS X.env.scope scope := by rw [c.sc]; exact LamX.lamS_by hs
  have pe := LamX.pe_lamcall (X := X) (T := TK X.K) (TT := TTl ea d tb) (t := fun E => tE C X.K (fun cls d _ H => E cls d H) ea false b) (p := p) (lpos := lpos) (pos := pos) (params := ⟨[], [], none, [], [], none, []⟩) (body := body) (scope := scope) (k := k)
    (c.gl hg).1 m1 m2 m3 m4 m5 m6 m7 m8 (gv X _ rfl rfl) TB hcode hmT hu room L rfl (fun _ _ _ _ _ => rfl) (fun A outer s H E f c' hr => hb E _ (lam_ctx c L hr)) (c.gl hg).2.1 m9 m10
  refine PE.by pe fun σ H Q h => ?_
  obtain ⟨W, e, s, R, En, h⟩ := h
  simp only [evE] at h
  refine ⟨R.tabs, fun H1 eN T1 => ?_⟩
  have p1 : Pres W H W H1 := pres_ext eN
  have R1 := R.grown eN T1
  refine ⟨W, e, s, R1, En.pres p1, ?_⟩
  cases q : evE C b e s with
  | ok u s1 =>
    rw [q] at h
    exact fun W' H' v gg => h W' H' (litV d) ⟨p1.trans gg.pres, gg.st, litV_rep i1, fun z => nomatch z⟩
  | exc kk v s1 =>
    rw [q] at h
    unfold tryO at h
    split at h
    · rename_i e1; cases e1
    · rename_i k1 s2 e1
      cases e1
      split at h
      · rename_i r er
        exact ⟨rfl, fun W' H' pp rr => ⟨kk, r, rfl, rfl, er, h W' H' (litV r) ⟨p1.trans pp, rr, litV_rep (i2 kk r er), fun z => nomatch z⟩⟩⟩
      · exact h.elim
    · exact h.elim
  | bad => rw [q] at h; exact h.elim
end
end Pv
end
section
set_option maxRecDepth 100000
set_option maxHeartbeats 4000000
namespace Pv
open PySem PySem.Spec PyProof.Rows L2
section
variable {G : GC} {C : Cl} {ea : Nat → Addr} {k : Nat}
def PEs (C : Cl) (Wx : WX) (ea : Nat → Addr) (X : Cx) : CEs → List Expr → Prop
  | .nil, [] => True
  | .cons a r, x :: rest => PE X x (tE C X.K Wx ea false a) ∧ noStar x = true ∧ PEs C Wx ea X r rest
  | _, _ => False
def SE (G : GC) (C : Cl) (ea : Nat → Addr) (k : Nat) (e : CE) : Prop := ∀ (S : SX) (Wx : WX) (X : Cx) (x : Expr), Ctx G S C Wx ea k X → chkE G S e x = true →
  (∀ fr : Bool, (fr = true → fresh G e = true) → PE X x (tE C X.K Wx ea fr e)) ∧ (tst e = true → PT X x (tT C X.K Wx ea e)) ∧ (tst e = true → ∀ op vals p, x = .BoolOp op vals p → PW X x (tT C X.K Wx ea e))
def SEs (G : GC) (C : Cl) (ea : Nat → Addr) (k : Nat) (es : CEs) : Prop := ∀ (S : SX) (Wx : WX) (X : Cx) (xs : List Expr), Ctx G S C Wx ea k X → chkEs G S es xs = true → PA X xs (tA C X.K Wx ea es) ∧ PEs C Wx ea X es xs
def SF (G : GC) (C : Cl) (ea : Nat → Addr) (k : Nat) (es : CEs) : Prop := ∀ (S : SX) (Wx : WX) (X : Cx) (xs : List Expr), Ctx G S C Wx ea k X → chkF G S es xs = true → PTs X xs (tF C X.K Wx ea es)
def isTup : Expr → Bool
  | .Tuple _ _ _ => true
  | _ => false
def wantTup : CI → Bool
  | .zip _ _ | .enum _ => true
  | _ => false
def SI (G : GC) (C : Cl) (ea : Nat → Addr) (k : Nat) (it : CI) : Prop := ∀ (S : SX) (Wx : WX) (X : Cx) (x tg : Expr), Ctx G S C Wx ea k X → chkI G S it x = true → (wantTup it = true → isTup tg = true) → PI X tg x (tI C X.K Wx ea it)
def ST (G : GC) (C : Cl) (ea : Nat → Addr) (k : Nat) (t : Tg) : Prop := ∀ (S : SX) (Wx Wx' : WX) (X : Cx) (x : Expr), Ctx G S C Wx ea k X → chkT G S t x = true → PG X x (tG C X.K Wx' ea t)
def STs (G : GC) (C : Cl) (ea : Nat → Addr) (k : Nat) (t : Tgs) : Prop := ∀ (S : SX) (Wx Wx' : WX) (X : Cx) (xs : List Expr), Ctx G S C Wx ea k X → chkTs G S t xs = true → PGs X xs (tGs C X.K Wx' ea t)
theorem pt_E {Wx : WX} {X : Cx} {x : Expr} {e : CE} (h : PE X x (tE C X.K Wx ea false e)) (he : ∀ whole, isTrue x X.env whole = (do let v ← whole; standAt x.pos; holding [v] (truthy v))) : PT X x (tT C X.K Wx ea e) :=
  PT.by (pt_val h he) fun σ H Q h => t_test h
/-- where a value is never new -/
theorem no_fr {e : CE} {fr : Bool} (h : fr = true → fresh G e = true) (n : fresh G e = false) : fr = false := by
  cases fr with
  | false => rfl
  | true => rw [h rfl] at n; cases n
theorem se_var {i : Nat} : SE G C ea k (.var i) := by
  intro S Wx X x c h
  cases x with
  | Name y p =>
    simp only [chkE, Bool.and_eq_true, decide_eq_true_eq, Bool.not_eq_true'] at h
    have P := e_var (pos := p) c h.1.1 h.1.2 h.2
    refine ⟨fun fr hf => ?_, fun _ => pt_E P (fun _ => rfl), fun _ _ _ _ e => nomatch e⟩
    rw [no_fr hf rfl]; exact P
  | _ => simp [chkE] at h
theorem se_lit {d : D} : SE G C ea k (.lit d) := by
  intro S Wx X x c h
  cases x with
  | Constant kk n p =>
    simp only [chkE] at h
    have P := e_lit (C := C) (Wx := Wx) (ea := ea) (X := X) (n := n) (pos := p) h
    refine ⟨fun fr hf => ?_, fun _ => pt_E P (fun _ => rfl), fun _ _ _ _ e => nomatch e⟩
    rw [no_fr hf rfl]; exact P
  | _ => simp [chkE] at h
theorem se_glo {y : Str} {d : D} : SE G C ea k (.glo y d) := by
  intro S Wx X x c h
  cases x with
  | Name y p =>
    simp only [chkE, Bool.and_eq_true, decide_eq_true_eq] at h
    obtain ⟨⟨e1, h1⟩, h2⟩ := h
    subst e1
    have P := e_glo (pos := p) c h1 h2
    refine ⟨fun fr hf => ?_, fun _ => pt_E P (fun _ => rfl), fun _ _ _ _ e => nomatch e⟩
    rw [no_fr hf rfl]; exact P
  | _ => simp [chkE] at h
theorem se_bin {o : Op} {a b : CE} (ha : SE G C ea k a) (hb : SE G C ea k b) : SE G C ea k (.bin o a b) := by
  intro S Wx X x c h
  cases x with
  | BinOp l op r p =>
    simp only [chkE, Bool.and_eq_true] at h
    exact ⟨fun fr hf => e_bin h.1.1 ((ha S Wx X l c h.1.2).1 false (fun z => nomatch z)) ((hb S Wx X r c h.2).1 false (fun z => nomatch z)), (fun z => nomatch z), (fun z => nomatch z)⟩
  | _ => simp [chkE] at h
theorem se_neg {a : CE} (ha : SE G C ea k a) : SE G C ea k (.neg a) := by
  intro S Wx X x c h
  cases x with
  | UnaryOp op l p =>
    cases op with
    | USub =>
      simp only [chkE] at h
      refine ⟨fun fr hf => ?_, (fun z => nomatch z), (fun z => nomatch z)⟩
      rw [no_fr hf rfl]
      exact e_neg ((ha S Wx X l c h).1 false (fun z => nomatch z))
    | _ => simp [chkE] at h
  | _ => simp [chkE] at h
theorem se_cmp {o : Cp} {a b : CE} (ha : SE G C ea k a) (hb : SE G C ea k b) : SE G C ea k (.cmp o a b) := by
  intro S Wx X x c h
  unfold chkE at h
  split at h
  · rename_i l op r p
    simp only [Bool.and_eq_true, Bool.not_eq_true'] at h
    have P := e_cmp (pos := p) c h.1.1.1 h.1.1.2 ((ha S Wx X l c h.1.2).1 false (fun z => nomatch z)) ((hb S Wx X r c h.2).1 false (fun z => nomatch z))
    refine ⟨fun fr hf => ?_, fun _ => P.2, fun _ _ _ _ e => nomatch e⟩
    rw [no_fr hf rfl]; exact P.1
  · cases h
theorem se_chn {o q : Cp} {a b d : CE} (ha : SE G C ea k a) (hb : SE G C ea k b) (hd : SE G C ea k d) : SE G C ea k (.chn o q a b d) := by
  intro S Wx X x c h
  unfold chkE at h
  split at h
  · rename_i l op op2 r t p
    simp only [Bool.and_eq_true, Bool.not_eq_true'] at h
    obtain ⟨⟨⟨⟨⟨h1, h2⟩, h3⟩, h4⟩, h5⟩, h6⟩ := h
    have P := e_chn (pos := p) c h1 h2 h3 ((ha S Wx X l c h4).1 false (fun z => nomatch z)) ((hb S Wx X r c h5).1 false (fun z => nomatch z)) ((hd S Wx X t c h6).1 false (fun z => nomatch z))
    refine ⟨fun fr hf => ?_, fun _ => P.2, fun _ _ _ _ e => nomatch e⟩
    rw [no_fr hf rfl]; exact P.1
  · cases h
theorem se_and {a b : CE} (ha : SE G C ea k a) (hb : SE G C ea k b) : SE G C ea k (.and a b) := by
  intro S Wx X x c h
  unfold chkE at h
  split at h
  · rename_i x0 y rest p
    simp only [Bool.and_eq_true] at h
    have A := ha S Wx X x0 c h.1
    have tl : PE X (.BoolOp .And (y :: rest) p) (tE C X.K Wx ea false b) ∧ (tst b = true → PW X (.BoolOp .And (y :: rest) p) (tT C X.K Wx ea b)) := by
      cases rest with
      | nil =>
        have B := hb S Wx X y c h.2
        exact ⟨pe_one (B.1 false (fun z => nomatch z)), fun t => pw_and1 (B.2.1 t)⟩
      | cons z r =>
        have B := hb S Wx X _ c h.2
        exact ⟨B.1 false (fun z => nomatch z), fun t => B.2.2 t _ _ _ rfl⟩
    have W : tst (.and a b) = true → PW X (.BoolOp .And (x0 :: y :: rest) p) (tT C X.K Wx ea (.and a b)) := fun t => by
      simp only [tst, Bool.and_eq_true] at t
      exact PW.by (pw_and (A.2.1 t.1) (tl.2 t.2)) fun σ H Q h => t_andT h
    refine ⟨fun fr hf => ?_, fun t => (W t).pt, fun t _ _ _ e => W t⟩
    rw [no_fr hf rfl]
    exact PE.by (pe_and (A.1 false (fun z => nomatch z)) tl.1) fun σ H Q h => t_and h
  · cases h
theorem se_or {a b : CE} (ha : SE G C ea k a) (hb : SE G C ea k b) : SE G C ea k (.or a b) := by
  intro S Wx X x c h
  unfold chkE at h
  split at h
  · rename_i x0 y rest p
    simp only [Bool.and_eq_true] at h
    have A := ha S Wx X x0 c h.1
    have tl : PE X (.BoolOp .Or (y :: rest) p) (tE C X.K Wx ea false b) ∧ (tst b = true → PW X (.BoolOp .Or (y :: rest) p) (tT C X.K Wx ea b)) := by
      cases rest with
      | nil =>
        have B := hb S Wx X y c h.2
        exact ⟨pe_one (B.1 false (fun z => nomatch z)), fun t => pw_or1 (B.2.1 t)⟩
      | cons z r =>
        have B := hb S Wx X _ c h.2
        exact ⟨B.1 false (fun z => nomatch z), fun t => B.2.2 t _ _ _ rfl⟩
    have W : tst (.or a b) = true → PW X (.BoolOp .Or (x0 :: y :: rest) p) (tT C X.K Wx ea (.or a b)) := fun t => by
      simp only [tst, Bool.and_eq_true] at t
      exact PW.by (pw_or (A.2.1 t.1) (tl.2 t.2)) fun σ H Q h => t_orT h
    refine ⟨fun fr hf => ?_, fun t => (W t).pt, fun t _ _ _ e => W t⟩
    rw [no_fr hf rfl]
    exact PE.by (pe_or (A.1 false (fun z => nomatch z)) tl.1) fun σ H Q h => t_or h
  · cases h
theorem se_not {a : CE} (ha : SE G C ea k a) : SE G C ea k (.not a) := by
  intro S Wx X x c h
  cases x with
  | UnaryOp op l p =>
    cases op with
    | Not =>
      simp only [chkE] at h
      have A := ha S Wx X l c h
      refine ⟨fun fr hf => ?_, fun t => ?_, fun _ _ _ _ e => nomatch e⟩
      · rw [no_fr hf rfl]
        exact e_not (A.1 false (fun z => nomatch z))
      · simp only [tst] at t
        exact PT.by (pt_not (A.2.1 t)) fun σ H Q h => t_notT h
    | _ => simp [chkE] at h
  | _ => simp [chkE] at h
theorem se_ite {t a b : CE} (ht : SE G C ea k t) (ha : SE G C ea k a) (hb : SE G C ea k b) : SE G C ea k (.ite t a b) := by
  intro S Wx X x c h
  cases x with
  | IfExp u l r p =>
    simp only [chkE, Bool.and_eq_true] at h
    obtain ⟨⟨⟨h1, h2⟩, h3⟩, h4⟩ := h
    refine ⟨fun fr hf => ?_, (fun z => nomatch z), (fun z => nomatch z)⟩
    rw [no_fr hf rfl]
    exact PE.by (pe_ifExp ((ht S Wx X u c h2).2.1 h1) ((ha S Wx X l c h3).1 false (fun z => nomatch z)) ((hb S Wx X r c h4).1 false (fun z => nomatch z))) fun σ H Q h => t_ite h
  | _ => simp [chkE] at h
theorem se_tup {es : CEs} (hs : SEs G C ea k es) : SE G C ea k (.tup es) := by
  intro S Wx X x c h
  cases x with
  | Tuple xs n p =>
    simp only [chkE, Bool.and_eq_true, decide_eq_true_eq] at h
    refine ⟨fun fr hf => ?_, (fun z => nomatch z), (fun z => nomatch z)⟩
    rw [no_fr hf rfl]
    exact e_tup h.1 h.2 (hs S Wx X xs c h.1).1
  | _ => simp [chkE] at h
theorem se_lst {es : CEs} (hs : SEs G C ea k es) : SE G C ea k (.lst es) := by
  intro S Wx X x c h
  cases x with
  | List xs p =>
    simp only [chkE, Bool.and_eq_true, decide_eq_true_eq] at h
    exact ⟨fun fr hf => e_lst h.1 h.2 (hs S Wx X xs c h.1).1, (fun z => nomatch z), (fun z => nomatch z)⟩
  | _ => simp [chkE] at h
theorem se_idx {a i : CE} (ha : SE G C ea k a) (hi : SE G C ea k i) : SE G C ea k (.idx a i) := by
  intro S Wx X x c h
  cases x with
  | Subscript l r p =>
    simp only [chkE, Bool.and_eq_true] at h
    have P := e_idx (pos := p) h.1.1 ((ha S Wx X l c h.1.2).1 false (fun z => nomatch z)) ((hi S Wx X r c h.2).1 false (fun z => nomatch z))
    refine ⟨fun fr hf => ?_, fun _ => pt_E P (fun _ => rfl), fun _ _ _ _ e => nomatch e⟩
    rw [no_fr hf rfl]; exact P
  | _ => simp [chkE] at h
theorem part_of {S : SX} {Wx : WX} {X : Cx} {cs : CEs} {o : Option Expr} (c : Ctx G S C Wx ea k X) (hs : SEs G C ea k cs) (h : (match o with
        | none => chkEs G S cs []
        | some x => chkEs G S cs [x]) = true) : (o = none ∧ cs = .nil) ∨ (∃ x c, o = some x ∧ cs = .cons c .nil ∧ PE X x (tE C X.K Wx ea false c)) := by
  cases o with
  | none =>
    cases cs with
    | nil => exact .inl ⟨rfl, rfl⟩
    | cons a r => simp [chkEs] at h
  | some x =>
    have P := (hs S Wx X [x] c h).2
    cases cs with
    | nil => simp [chkEs] at h
    | cons a r =>
      cases r with
      | nil => exact .inr ⟨x, a, rfl, rfl, P.1⟩
      | cons b r => simp [chkEs] at h
theorem se_slc {a : CE} {lo hi : CEs} (ha : SE G C ea k a) (hl : SEs G C ea k lo) (hh : SEs G C ea k hi) : SE G C ea k (.slc a lo hi) := by
  intro S Wx X x c h
  unfold chkE at h
  split at h
  · rename_i l lo' hi' p2 p
    simp only [Bool.and_eq_true] at h
    exact ⟨fun fr hf => e_slc ((ha S Wx X l c h.1.1).1 false (fun z => nomatch z)) (part_of c hl h.1.2) (part_of c hh h.2), (fun z => nomatch z), (fun z => nomatch z)⟩
  · cases h
theorem se_slr {a : CE} (ha : SE G C ea k a) : SE G C ea k (.slr a) := by
  intro S Wx X x c h
  unfold chkE at h
  split at h
  · rename_i l i n p1 p2 p3 p
    simp only [Bool.and_eq_true, decide_eq_true_eq] at h
    obtain ⟨e1, h⟩ := h
    subst e1
    exact ⟨fun fr hf => e_slr ((ha S Wx X l c h).1 false (fun z => nomatch z)), (fun z => nomatch z), (fun z => nomatch z)⟩
  · cases h
theorem se_callD {f : Nat} {es : CEs} {ds : List D} (hs : SEs G C ea k es) : SE G C ea k (.callD f es ds) := by
  intro S Wx X x c h
  unfold chkE at h
  split at h
  · rename_i y p xs p2
    simp only [Bool.and_eq_true, decide_eq_true_eq, Bool.not_eq_true'] at h
    obtain ⟨⟨⟨⟨h1, h2⟩, h3⟩, h4⟩, h5⟩ := h
    have P : ∀ fr : Bool, (fr = true → frOf G f = true) → PE X (.Call (.Name y p) xs [] p2) (tE C X.K Wx ea fr (.callD f es ds)) := fun fr hf => e_callD c h1 h2 h3 h4 h5 hf (hs S Wx X _ c h4).1
    exact ⟨fun fr hf => P fr hf, fun _ => pt_E (P false (fun z => nomatch z)) (fun _ => rfl), fun _ _ _ _ e => nomatch e⟩
  · cases h
theorem se_tryL {d : D} {tb : List (Nat × D)} {b : CE} (hb : SE G C ea k b) : SE G C ea k (.tryL d tb b) := by
  intro S Wx X x c h
  unfold chkE at h
  split at h
  · rename_i y p ar body scope lpos p2
    simp only [Bool.and_eq_true] at h
    obtain ⟨⟨⟨⟨⟨h1, h2⟩, h3⟩, h4⟩, h5⟩, h6⟩ := h
    have P := e_tryL (p := p) (lpos := lpos) (pos := p2) c h1 h2 h3 h4 h5 (fun E X' c' => (hb _ _ X' _ c' h6).1 false (fun z => nomatch z))
    refine ⟨fun fr hf => ?_, fun _ => pt_E P (fun _ => rfl), fun _ _ _ _ e => nomatch e⟩
    rw [no_fr hf rfl]; exact P
  · cases h
theorem se_call {f : Nat} {es : CEs} (hs : SEs G C ea k es) : SE G C ea k (.call f es) := by
  intro S Wx X x c h
  unfold chkE at h
  split at h
  · rename_i y p xs p2
    simp only [Bool.and_eq_true, decide_eq_true_eq] at h
    have A := (hs S Wx X xs c h.2).1
    exact ⟨fun fr hf => e_call c h.1.1 h.1.2 h.2 hf A, fun _ => pt_E (e_call c h.1.1 h.1.2 h.2 (fun z => nomatch z) A) (fun _ => rfl), fun _ _ _ _ e => nomatch e⟩
  · cases h
theorem se_bi {b : BI} {es : CEs} (hs : SEs G C ea k es) : SE G C ea k (.bi b es) := by
  intro S Wx X x c h
  unfold chkE at h
  split at h
  · rename_i y p z zs p2
    simp only [Bool.and_eq_true, decide_eq_true_eq] at h
    have A := (hs S Wx X _ c h.2).1
    exact ⟨fun fr hf => e_bi c h.1.1.1 h.1.1.2 h.1.2 h.2 (fun z => by have := hf z; cases b <;> first | rfl | exact this) A, fun _ => pt_E (e_bi c h.1.1.1 h.1.1.2 h.1.2 h.2 (fun z => nomatch z) A) (fun _ => rfl), fun _ _ _ _ e => nomatch e⟩
  · cases h
theorem se_isi {a : CE} {t : Ty} (ha : SE G C ea k a) : SE G C ea k (.isi a t) := by
  intro S Wx X x c h
  unfold chkE at h
  split at h
  · rename_i y p z w p2 p3
    simp only [Bool.and_eq_true, decide_eq_true_eq] at h
    obtain ⟨⟨⟨⟨⟨⟨h1, h2⟩, h3⟩, h4⟩, h5⟩, h6⟩, h7⟩ := h
    have P := e_isi (p := p) (p2 := p2) (pos := p3) c h1 h2 h3 h4 (fun c e => by subst e; cases h5) h7 ((ha S Wx X z c h6).1 false (fun z => nomatch z))
    refine ⟨fun fr hf => ?_, fun _ => pt_E P (fun _ => rfl), fun _ _ _ _ e => nomatch e⟩
    rw [no_fr hf rfl]; exact P
  · cases h
theorem se_thaw {a : CE} (ha : SE G C ea k a) : SE G C ea k (.thaw a) := by
  intro S Wx X x c h
  simp only [chkE, Bool.and_eq_true] at h
  refine ⟨fun fr hf => ?_, (fun z => nomatch z), (fun z => nomatch z)⟩
  rw [no_fr hf rfl]
  exact e_thaw ((ha S Wx X x c h.2).1 true (fun _ => h.1))
theorem se_pop {o : CE} {es : CEs} (ho : SE G C ea k o) (hs : SEs G C ea k es) : SE G C ea k (.pop o es) := by
  intro S Wx X x c h
  unfold chkE at h
  split at h
  · rename_i l n ap xs cp
    simp only [Bool.and_eq_true, decide_eq_true_eq] at h
    obtain ⟨⟨⟨⟨⟨h1, h2⟩, h3⟩, h4⟩, h5⟩, h6⟩ := h
    subst h1
    have P := e_pop (apos := ap) (cpos := cp) h2 h3 h5 h6 ((ho S Wx X l c h4).1 false (fun z => nomatch z)) (hs S Wx X xs c h5).1
    refine ⟨fun fr hf => ?_, fun _ => pt_E P (fun _ => rfl), fun _ _ _ _ e => nomatch e⟩
    rw [no_fr hf rfl]; exact P
  · cases h
theorem se_comp {own : List (Str × Nat)} {tg : Tg} {it : CI} {ifs : CEs} {elt : CE} (ht : ST G C ea k tg) (hi : SI G C ea k it) (hf : SF G C ea k ifs) (he : SE G C ea k elt) : SE G C ea k (.comp own tg it ifs elt) := by
  intro S Wx X x c h
  unfold chkE at h
  split at h
  · rename_i el t i fs scope p
    simp only [Bool.and_eq_true] at h
    obtain ⟨⟨⟨⟨⟨⟨h1, h2⟩, h3⟩, h4⟩, h5⟩, h6⟩, h7⟩ := h
    have hb : BlkOk X.N X.env.scope scope own := by rw [c.N, c.sc]; exact blkOk_by h1
    refine ⟨fun fr _ => PE.by (pe_lc (wi := tI C X.K Wx ea it) (g := tG C X.K (fun _ _ _ _ => False) ea tg) (tt := tF C X.K (fun _ _ _ _ => False) ea ifs) (te := tE C X.K (fun _ _ _ _ => False) ea false elt) c.calm c.nd (hi S Wx X i t c h2 (fun w => ?_)) hb (fun s H CA cl fp => ?_) (fun s H CA cl fp => ?_) (fun s H CA cl fp => ?_) (noSet_fold (chkI_set h2))) fun σ H Q h => t_comp h4 h, (fun z => nomatch z), (fun z => nomatch z)⟩
    · revert h3
      cases it <;> first | (intro _; cases w; done) | (cases t <;> intro h3 <;> first | rfl | cases h3)
    · exact ht _ _ _ _ _ (c.blk s H CA cl fp) h5
    · exact hf _ _ _ _ (c.blk s H CA cl fp) h6
    · exact (he _ _ _ _ (c.blk s H CA cl fp) h7).1 false (fun z => nomatch z)
  · cases h
theorem ses_nil : SEs G C ea k .nil := by
  intro S Wx X xs c h
  simp only [chkEs, List.isEmpty_iff] at h
  subst h
  exact ⟨a_nil, trivial⟩
theorem ses_cons {a : CE} {r : CEs} (ha : SE G C ea k a) (hr : SEs G C ea k r) : SEs G C ea k (.cons a r) := by
  intro S Wx X xs c h
  cases xs with
  | nil => simp [chkEs] at h
  | cons x rest =>
    simp only [chkEs, Bool.and_eq_true] at h
    have A := (ha S Wx X x c h.1.2).1 false (fun z => nomatch z)
    have R := hr S Wx X rest c h.2
    exact ⟨a_cons h.1.1 A R.1, A, h.1.1, R.2⟩
theorem sf_nil : SF G C ea k .nil := by
  intro S Wx X xs c h
  simp only [chkF, List.isEmpty_iff] at h
  subst h
  refine ⟨fun pins s σ H Q I w => pts_nil.run pins s σ H Q I ?_⟩
  obtain ⟨W, e, st, R, En, w⟩ := w
  exact w W H true ⟨Pres.refl, R, rfl⟩
theorem sf_cons {a : CE} {r : CEs} (ha : SE G C ea k a) : SF G C ea k (.cons a r) := by
  intro S Wx X xs c h
  cases xs with
  | nil => simp [chkF] at h
  | cons x rest =>
    cases rest with
    | cons _ _ => simp [chkF] at h
    | nil =>
      cases r with
      | cons _ _ => simp [chkF] at h
      | nil =>
        simp only [chkF, Bool.and_eq_true] at h
        refine pts_one (PT.by ((ha S Wx X x c h.2).2.1 h.1) fun σ H Q w => ?_)
        obtain ⟨W, e, st, R, En, w⟩ := w
        simp only [evIf] at w
        refine ⟨W, e, st, R, En, ?_⟩
        cases q : evE C a e st with
        | bad => rw [q] at w; exact w.elim
        | exc _ _ _ => rw [q] at w; exact w
        | ok d s1 =>
          rw [q] at w
          simp only [Out.bind] at w ⊢
          cases d with
          | bl b =>
            cases b with
            | true => exact w
            | false => exact w
          | _ => exact w.elim
theorem si_of {a : CE} (ha : SE G C ea k a) : SI G C ea k (.of a) := by
  intro S Wx X x tg c h _
  simp only [chkI, Bool.and_eq_true] at h
  exact i_of ((ha S Wx X x c h.2).1 false (fun z => nomatch z))
theorem si_range {es : CEs} (hs : SEs G C ea k es) : SI G C ea k (.range es) := by
  intro S Wx X x tg c h _
  unfold chkI at h
  split at h
  · rename_i y p xs p2
    simp only [Bool.and_eq_true, decide_eq_true_eq] at h
    exact i_range c h.1.1.1 h.1.1.2 h.1.2 h.2 (hs S Wx X xs c h.1.2).1
  · cases h
theorem si_revr {es : CEs} (hs : SEs G C ea k es) : SI G C ea k (.revr es) := by
  intro S Wx X x tg c h _
  unfold chkI at h
  split at h
  · rename_i y p z p2 xs p3 p4
    simp only [Bool.and_eq_true, decide_eq_true_eq] at h
    obtain ⟨⟨⟨⟨⟨h1, h2⟩, h3⟩, h4⟩, h5⟩, h6⟩ := h
    have A := (hs S Wx X xs c h5).2
    match es, xs, h5, h6, A with
    | .nil, [], _, _, _ => exact ⟨fun pins s σ H R I w => by
        obtain ⟨W, e, st, R, En, w⟩ := w
        exact w.elim⟩
    | .cons a .nil, [u], _, _, A => exact i_revr1 c h1 h2 h3 h4 A.2.1 A.1
    | .cons a (.cons b .nil), [u, v], _, _, A => exact i_revr2 c h1 h2 h3 h4 A.2.1 A.2.2.2.1 A.1 A.2.2.1
    | _, _ :: _ :: _ :: _, _, h6, _ => simp at h6
    | .nil, _ :: _, _, _, A => exact A.elim
    | .cons _ _, [], _, _, A => exact A.elim
    | .cons _ .nil, [_, _], _, _, A => exact A.2.2.elim
    | .cons _ (.cons _ _), [_], _, _, A => exact A.2.2.elim
    | .cons _ (.cons _ (.cons _ _)), [_, _], _, _, A => exact A.2.2.2.2.elim
  · cases h
theorem tup_of {tg : Expr} (h : isTup tg = true) : ∃ xs n p, tg = .Tuple xs n p := by
  cases tg <;> first | exact ⟨_, _, _, rfl⟩ | cases h
theorem si_zip {a b : CE} (ha : SE G C ea k a) (hb : SE G C ea k b) : SI G C ea k (.zip a b) := by
  intro S Wx X x tg c h w
  obtain ⟨xs, n, p, rfl⟩ := tup_of (w rfl)
  unfold chkI at h
  split at h
  · rename_i y p y1 y2 p2
    simp only [Bool.and_eq_true, decide_eq_true_eq] at h
    obtain ⟨⟨⟨⟨⟨h1, h2⟩, h3⟩, h4⟩, h5⟩, h6⟩ := h
    exact i_zip c h1 h2 h5 h6 ((ha S Wx X _ c h3).1 false (fun z => nomatch z)) ((hb S Wx X _ c h4).1 false (fun z => nomatch z))
  · cases h
theorem si_enum {a : CE} (ha : SE G C ea k a) : SI G C ea k (.enum a) := by
  intro S Wx X x tg c h w
  obtain ⟨xs, n, p, rfl⟩ := tup_of (w rfl)
  unfold chkI at h
  split at h
  · rename_i y p y1 p2
    simp only [Bool.and_eq_true, decide_eq_true_eq] at h
    obtain ⟨⟨⟨h1, h2⟩, h3⟩, h4⟩ := h
    exact i_enum c h1 h2 h4 ((ha S Wx X _ c h3).1 false (fun z => nomatch z))
  · cases h
theorem si_rev {a : CE} (ha : SE G C ea k a) : SI G C ea k (.rev a) := by
  intro S Wx X x tg c h w
  unfold chkI at h
  split at h
  · rename_i y p y1 p2
    simp only [Bool.and_eq_true, decide_eq_true_eq] at h
    obtain ⟨⟨⟨h1, h2⟩, h3⟩, h4⟩ := h
    exact i_rev c h1 h2 h4 ((ha S Wx X _ c h3).1 false (fun z => nomatch z))
  · cases h
theorem st_nm {i : Nat} : ST G C ea k (.nm i) := by
  intro S Wx Wx' X x c h
  cases x with
  | Name y p =>
    simp only [chkT, Bool.and_eq_true, decide_eq_true_eq] at h
    exact g_nm c h.1 h.2
  | _ => simp [chkT] at h
theorem st_tp {ts : Tgs} (hs : STs G C ea k ts) : ST G C ea k (.tp ts) := by
  intro S Wx Wx' X x c h
  cases x with
  | Tuple xs n p =>
    simp only [chkT] at h
    exact g_tp c.calm h (hs S Wx Wx' X xs c h)
  | _ => simp [chkT] at h
theorem st_sub {o i : CE} (ho : SE G C ea k o) (hi : SE G C ea k i) : ST G C ea k (.sub o i) := by
  intro S Wx Wx' X x c h
  cases x with
  | Subscript l r p =>
    simp only [chkT, Bool.and_eq_true] at h
    exact g_sub h.1.1 ((ho S Wx X l c h.1.2).1 false (fun z => nomatch z)) ((hi S Wx X r c h.2).1 false (fun z => nomatch z))
  | _ => simp [chkT] at h
theorem sts_nil : STs G C ea k .nil := by
  intro S Wx Wx' X xs c h
  simp only [chkTs, List.isEmpty_iff] at h
  subst h
  exact gs_nil
theorem sts_cons {t : Tg} {r : Tgs} (ht : ST G C ea k t) (hr : STs G C ea k r) : STs G C ea k (.cons t r) := by
  intro S Wx Wx' X xs c h
  cases xs with
  | nil => simp [chkTs] at h
  | cons x rest =>
    simp only [chkTs, Bool.and_eq_true] at h
    exact gs_cons h.1.1 (ht S Wx Wx' X x c h.1.2) (hr S Wx Wx' X rest c h.2)
variable (G C ea k)
mutual
theorem sE : ∀ e : CE, SE G C ea k e
  | .var i => se_var
  | .lit d => se_lit
  | .glo x d => se_glo
  | .bin o a b => se_bin (sE a) (sE b)
  | .neg a => se_neg (sE a)
  | .cmp o a b => se_cmp (sE a) (sE b)
  | .chn o p a b c => se_chn (sE a) (sE b) (sE c)
  | .and a b => se_and (sE a) (sE b)
  | .or a b => se_or (sE a) (sE b)
  | .not a => se_not (sE a)
  | .ite c a b => se_ite (sE c) (sE a) (sE b)
  | .tup es => se_tup (sEs es)
  | .lst es => se_lst (sEs es)
  | .idx a i => se_idx (sE a) (sE i)
  | .slc a lo hi => se_slc (sE a) (sEs lo) (sEs hi)
  | .call f es => se_call (sEs es)
  | .bi b es => se_bi (sEs es)
  | .isi a t => se_isi (sE a)
  | .comp own tg it ifs elt => se_comp (sT tg) (sI it) (sFs ifs) (sE elt)
  | .thaw a => se_thaw (sE a)
  | .pop o es => se_pop (sE o) (sEs es)
  | .slr a => se_slr (sE a)
  | .callD f es ds => se_callD (sEs es)
  | .tryL d tb b => se_tryL (sE b)
theorem sEs : ∀ es : CEs, SEs G C ea k es
  | .nil => ses_nil
  | .cons a r => ses_cons (sE a) (sEs r)
theorem sFs : ∀ es : CEs, SF G C ea k es
  | .nil => sf_nil
  | .cons a r => sf_cons (sE a)
theorem sI : ∀ it : CI, SI G C ea k it
  | .of e => si_of (sE e)
  | .range es => si_range (sEs es)
  | .zip a b => si_zip (sE a) (sE b)
  | .enum a => si_enum (sE a)
  | .rev a => si_rev (sE a)
  | .revr es => si_revr (sEs es)
theorem sT : ∀ t : Tg, ST G C ea k t
  | .nm i => st_nm
  | .tp ts => st_tp (sTs ts)
  | .sub o i => st_sub (sE o) (sE i)
theorem sTs : ∀ ts : Tgs, STs G C ea k ts
  | .nil => sts_nil
  | .cons t r => sts_cons (sT t) (sTs r)
end
end
end Pv
end
section
set_option maxRecDepth 100000
set_option maxHeartbeats 4000000
namespace Pv
open PySem PySem.Spec PyProof.Rows L2
/-! ### statements: the checker -/
def notComp : Expr → Bool
  | .ListComp _ _ _ _ | .SetComp _ _ _ _ | .DictComp _ _ _ _ _ => false
  | _ => true
def scFun (S : SX) : Bool := match S.sc.kind with
  | .function => true
  | _ => false
def loc1 (S : SX) (x : Str) : Bool := decide (S.sc.names.lookup x = some .local)
/-- one target, no exchange of stores -/
def plainAsg (S : SX) (t e : Expr) : Bool :=
  match t, e with
  | .Tuple ts _ _, .Tuple vs _ _ => vs.all (foldedForSure 8) || decide (ts.length ≠ 2 ∧ ts.length ≠ 3) || decide (vs.length ≠ ts.length) || ts.any (fun t => match t with
      | .Name x _ => !loc1 S x
      | _ => true)
  | .List _ _, _ => false
  | _, _ => true
/-- a, b = .. with plain locals on one line -/
def swapAsg (vs : List Expr) : Bool := !vs.all (foldedForSure 8) && !vs.all (constantsAlone 8) && vs.all noStar
def isCompE : CE → Option (List (Str × Nat) × Tg × CI × CEs × CE)
  | .comp own tg it ifs elt => some (own, tg, it, ifs, elt)
  | .thaw (.comp own tg it ifs elt) => some (own, tg, it, ifs, elt)
  | _ => none
def chkExp (G : GC) (S : SX) (a : CE) (s : Stmt) : Bool := match s with
  | .Expr e _ => notComp e && chkE G S a e
  | _ => false
def chkApp (G : GC) (S : SX) (o a : CE) (s : Stmt) : Bool := match s with
  | .Expr (.Call (.Attribute l n apos) [x] [] cpos) _ => decide (n = "append") && baseB l && (apos.endLine == cpos.line) && chkE G S o l && noStar x && chkE G S a x
  | _ => false
def chkExt (G : GC) (S : SX) (o a : CE) (s : Stmt) : Bool := match s with
  | .Expr (.Call (.Attribute l n apos) [x] [] cpos) _ => decide (n = "extend") && baseB l && (apos.endLine == cpos.line) && chkE G S o l && noStar x && fresh G a && chkE G S a x
  | _ => false
/-- no store by exchange -/
def noSw (S : SX) (tg e : Expr) : Bool := notComp e || match tg with
  | .Tuple _ _ _ => true
  | .Name x _ => !loc1 S x
  | _ => false
def chkAs1 (G : GC) (S : SX) (t : Tg) (a : CE) (tg e : Expr) : Bool := noSw S tg e && noStar tg && plainAsg S tg e && chkT G S t tg && chkE G S a e
def chkLc (G : GC) (S : SX) (i : Nat) (a : CE) (tg e : Expr) : Bool := match tg, e with
  | .Name y py, .ListComp el [⟨u, it, fs, 0⟩] scope cp => scFun S && decide (S.N[i]? = some y) && loc1 S y && (py.line == cp.line) && !(scope.names.any fun (n, k) => n == y && (k == .local || k == .cell)) && chkE G S a (.ListComp el [⟨u, it, fs, 0⟩] scope cp) && (isCompE a).isSome
  | _, _ => false
def chkSw2 (G : GC) (S : SX) (i j : Nat) (es : CEs) (tg e : Expr) : Bool := match tg, e with
  | .Tuple [.Name x px, .Name y py] _ _, .Tuple [b, c] _ _ => scFun S && decide (S.N[i]? = some x) && decide (S.N[j]? = some y) && decide (x ≠ y) && loc1 S x && loc1 S y && (py.line == px.line) && swapAsg [b, c] && chkEs G S es [b, c]
  | _, _ => false
def chkSw3 (G : GC) (S : SX) (i j l : Nat) (es : CEs) (tg e : Expr) : Bool := match tg, e with
  | .Tuple [.Name x px, .Name y py, .Name z pz] _ _, .Tuple [b, c, d] _ _ => scFun S && decide (S.N[i]? = some x) && decide (S.N[j]? = some y) && decide (S.N[l]? = some z) && decide (x ≠ y) && decide (x ≠ z) && decide (y ≠ z) && loc1 S x && loc1 S y && loc1 S z && (py.line == px.line) && (pz.line == px.line) && swapAsg [b, c, d] && chkEs G S es [b, c, d]
  | _, _ => false
def chkAsg (G : GC) (S : SX) (t : Tg) (a : CE) (s : Stmt) : Bool := match s with
  | .Assign [tg] e _ => chkAs1 G S t a tg e || (match t with
    | .nm i => chkLc G S i a tg e
    | .tp (.cons (.nm i) (.cons (.nm j) .nil)) => (match a with
      | .tup es => chkSw2 G S i j es tg e
      | _ => false)
    | .tp (.cons (.nm i) (.cons (.nm j) (.cons (.nm l) .nil))) => (match a with
      | .tup es => chkSw3 G S i j l es tg e
      | _ => false)
    | _ => false)
  | _ => false
def augB (o : Op) (op : Operator) : Bool := match o, op with
  | .add, .Add | .sub, .Sub => true
  | _, _ => false
def chkAug (G : GC) (S : SX) (i : Nat) (o : Op) (a : CE) (s : Stmt) : Bool := match s with
  | .AugAssign (.Name x _) op e _ => decide (S.N[i]? = some x) && stoB S x && augB o op && chkE G S a e
  | _ => false
def chkRet (G : GC) (S : SX) (fr : Bool) (a : CE) (s : Stmt) : Bool := match s with
  | .Return (some e) _ => (!fr || fresh G a) && chkE G S a e
  | _ => false
def isPas : Stmt → Bool
  | .Pass _ => true
  | _ => false
def isBrk : Stmt → Bool
  | .Break _ => true
  | _ => false
def isCnt : Stmt → Bool
  | .Continue _ => true
  | _ => false
def isRet0 : Stmt → Bool
  | .Return none _ => true
  | _ => false
def chkRais (G : GC) (S : SX) (n : Nat) (s : Stmt) : Bool := match s with
  | .Raise (some (.Call (.Name x _) [.Constant (.str _) _ _] [] _)) none _ => decide (G.excs[n]? = some x) && glB S.sc x
  | _ => false
mutual
def chkS (G : GC) (S : SX) (fr : Bool) : CS → Stmt → Bool
  | .nev, _ => true
  | .rais n _, s => chkRais G S n s
  | .pas, s => isPas s
  | .brk, s => isBrk s
  | .cnt, s => isCnt s
  | .ret0, s => isRet0 s
  | .exp a, s => chkExp G S a s
  | .app o a, s => chkApp G S o a s
  | .ext o a, s => chkExt G S o a s
  | .asg t a, s => chkAsg G S t a s
  | .aug i o a, s => chkAug G S i o a s
  | .ret a, s => chkRet G S fr a s
  | .retL a, s => chkRet G S false a s
  | .ife t a b, s => match s with
    | .If u p q _ => tst t && chkE G S t u && chkSs G S fr a p && chkSs G S fr b q
    | _ => false
  | .for_ t it b, s => match s with
    | .For tg i body [] _ => chkI G S it i && (!wantTup it || isTup tg) && chkT G S t tg && chkSs G S fr b body
    | _ => false
  | .whl t b, s => match s with
    | .While u body [] _ => tst t && chkE G S t u && chkSs G S fr b body
    | _ => false
def chkSs (G : GC) (S : SX) (fr : Bool) : CSs → List Stmt → Bool
  | .nil, l => l.isEmpty
  | .cons a r, l => match l with
    | s :: t => chkS G S fr a s && chkSs G S fr r t
    | [] => false
end
/-! ### what a statement's outcome promises -/
def GS (K : PySem.W.Frag) : Rl En L2.St := fun W H W' s' H' e σ' => Pres W H W' H' ∧ RelSt K W' s' H' ∧ RelEn K W' H' e σ'
theorem GS.gt {K : PySem.W.Frag} : GT K (GS K) := ⟨fun p g => ⟨p.trans g.1, g.2⟩, fun g => g.1, fun g => g.2.1⟩
def SatS (K : PySem.W.Frag) (Wx : WX) (ea : Nat → Addr) (fr : Bool) (W : Wd) (H : Hp) (x : OutS) (D : Ends) : Prop :=
  match x with
  | .nx e s' => ∀ W' H' σ', GS K W H W' s' H' e σ' → D.nx σ' H'
  | .brk e s' => ∀ W' H' σ', GS K W H W' s' H' e σ' → D.bk σ' H'
  | .cnt e s' => ∀ W' H' σ', GS K W H W' s' H' e σ' → D.ct σ' H'
  | .ret d s' => ∀ W' H' v, Got K fr W H W' s' H' d v → D.rt v H'
  | .exc k v e s' => v = .non ∧ ∀ W' H' σ', GS K W H W' s' H' e σ' → Wx (.ref (ea k)) none σ' H'
  | .bad => False
section
variable {K : PySem.W.Frag} {Wx : WX} {ea : Nat → Addr} {fr : Bool} {σ : L2.St} {W W1 : Wd} {H H1 : Hp} {D : Ends}
theorem SatS.pres {x : OutS} (p : Pres W H W1 H1) (h : SatS K Wx ea fr W H x D) : SatS K Wx ea fr W1 H1 x D := by
  cases x with
  | nx e s => exact fun W' H' σ' g => h W' H' σ' (GS.gt.trans p g)
  | brk e s => exact fun W' H' σ' g => h W' H' σ' (GS.gt.trans p g)
  | cnt e s => exact fun W' H' σ' g => h W' H' σ' (GS.gt.trans p g)
  | ret d s => exact fun W' H' v g => h W' H' v (Got.trans (fr' := fr) p g)
  | exc k v e s => exact ⟨h.1, fun W' H' σ' g => h.2 W' H' σ' (GS.gt.trans p g)⟩
  | bad => exact h
theorem SatS.toS {x : Out Pv.En} {e : Pv.En} (En : RelEn K W H e σ) (h : SatS K Wx ea fr W H (Pv.toS x e) D) : Sat K Wx ea σ (GS K) W H x D.nx := by
  cases x with
  | ok e1 s => exact h
  | exc k v s => exact ⟨h.1, fun W' H' p r => h.2 W' H' σ ⟨p, r, En.pres p⟩⟩
  | bad => exact h
theorem Sat.weak {α β : Type} {G1 G2 : Rl α β} {x : Out α} {Q : β → Hp → Prop} (h : Sat K Wx ea σ G2 W H x Q) (i : ∀ {W' s' H' a b}, G1 W H W' s' H' a b → G2 W H W' s' H' a b) : Sat K Wx ea σ G1 W H x Q := by
  cases x with
  | ok a s => exact fun W' H' b g => h W' H' b (i g)
  | exc k v s => exact h
  | bad => exact h
theorem Sat.excS {α β : Type} {G1 : Rl α β} {x : Out α} {f : α → Sto → OutS} {e : Pv.En} {Q : β → Hp → Prop} (En : RelEn K W H e σ)
    (h : SatS K Wx ea fr W H (thenS x e f) D) (hq : ∀ a s1, x = .ok a s1 → SatS K Wx ea fr W H (f a s1) D → ∀ W' H' b, G1 W H W' s1 H' a b → Q b H') : Sat K Wx ea σ G1 W H x Q := by
  cases x with
  | ok a s => exact hq a s rfl h
  | exc k v s => exact ⟨h.1, fun W' H' p r => h.2 W' H' σ ⟨p, r, En.pres p⟩⟩
  | bad => exact h
end
section
variable (C : Cl) (K : PySem.W.Frag) (Wx : WX) (ea : Nat → Addr) (fr : Bool)
def tS (c : CS) : TS := fun D σ H => ∃ W e s, RelSt K W s H ∧ RelEn K W H e σ ∧ SatS K Wx ea fr W H (evS C c e s) D
def tSs (c : CSs) : TS := fun D σ H => ∃ W e s, RelSt K W s H ∧ RelEn K W H e σ ∧ SatS K Wx ea fr W H (evSs C c e s) D
end
section
variable {G : GC} {S : SX} {C : Cl} {Wx : WX} {ea : Nat → Addr} {k : Nat} {X : Cx} {fr : Bool}
theorem PS.by {e : Stmt} {t t' : TS} (h : PS X e t) (i : ∀ D σ H, t' D σ H → t D σ H) : PS X e t' := ⟨fun pins s σ H D I q => h.run pins s σ H D I (i D σ H q)⟩
theorem PSs.by {e : List Stmt} {t t' : TS} (h : PSs X e t) (i : ∀ D σ H, t' D σ H → t D σ H) : PSs X e t' := ⟨fun pins s σ H D I q => h.run pins s σ H D I (i D σ H q)⟩
theorem notComp_sw {e : Expr} {t : Option Expr} {l : Nat} {env : Env} (h : notComp e = true) : swapsWith e t l env = pure false := by
  cases e <;> first | rfl | cases h
theorem notComp_sole {e t : Expr} {l : Nat} {env : Env} (h : notComp e = true) : swapsWithSole [t] e l env = pure false := notComp_sw h
theorem noSw_sole {e t : Expr} {l : Nat} (hsc : X.env.scope = S.sc) (h : noSw S t e = true) : swapsWithSole [t] e l X.env = pure false := by
  by_cases q : notComp e = true
  · exact notComp_sole q
  · unfold noSw at h
    rw [Bool.not_eq_true] at q
    rw [q, Bool.false_or] at h
    split at h
    · cases e <;> first | rfl | (cases q; done)
    · rename_i x pos
      have hk : (X.env.kindOf x == some .local) = false := by
        rw [beq_eq_false_iff_ne]
        intro z
        unfold loc1 at h
        rw [← hsc] at h
        have z : X.env.scope.names.lookup x = some .local := z
        rw [z] at h
        simp at h
      cases e <;> first | (cases q; done) | (unfold swapsWithSole swapsWith; simp only [hk, Bool.and_false, Bool.false_and]; done) | rfl
    · cases h
theorem filterMap_lt {α β : Type} (f : α → Option β) : ∀ (l : List α), (l.any fun a => (f a).isNone) = true → (l.filterMap f).length < l.length
  | [], h => by simp at h
  | a :: r, h => by
    have ih := filterMap_lt f r
    simp only [List.any_cons, Bool.or_eq_true] at h
    cases q : f a with
    | none =>
      rw [List.filterMap_cons_none q]
      have := List.length_filterMap_le f r
      simp only [List.length_cons]; omega
    | some b =>
      rw [q] at h
      rcases h with h | h
      · cases h
      · rw [List.filterMap_cons_some q]
        have := ih h
        simp only [List.length_cons]; omega
theorem plain_no {t e : Expr} (hsc : X.env.scope = S.sc) (h : plainAsg S t e = true) : swappedStores [t] e X.env = pure none := by
  unfold plainAsg at h
  split at h
  · rename_i ts k1 p1 vs k2 p2
    unfold swappedStores
    simp only
    simp only [Bool.or_eq_true, decide_eq_true_eq] at h
    split
    · rfl
    · rename_i h1
      split
      · rfl
      · split
        · rfl
        · rename_i h3
          rcases h with ((h | h) | h) | h
          · rw [if_pos h]
          · exfalso
            apply h1
            simp [h.1, h.2]
          · exfalso
            apply h1
            simp [h]
          · exfalso
            apply h3
            have : (ts.filterMap fun
              | .Name id pos => if X.env.kindOf id == some .local && pos.line == (ts.head?.map (·.pos.line)).getD 0 then some id else none
              | _ => none).length < ts.length := by
              apply filterMap_lt
              rw [List.any_eq_true] at h ⊢
              obtain ⟨a, ha, hb⟩ := h
              refine ⟨a, ha, ?_⟩
              split at hb
              · rename_i x p
                have : ¬ (X.env.scope.names.lookup x = some .local) := by
                  rw [hsc]
                  unfold loc1 at hb
                  simpa using hb
                have q : (X.env.kindOf x == some .local) = false := by
                  rw [beq_eq_false_iff_ne]
                  exact this
                simp [q]
              · rename_i hn
                cases a <;> first | rfl | exact absurd rfl (hn _ _)
            have q2 := Nat.ne_of_lt this
            simp only [Bool.or_eq_true, bne_iff_ne, ne_eq]
            exact .inl q2
  · cases h
  · rename_i h1 h2
    cases t with
    | List a b => exact (h1 _ _ rfl).elim
    | Tuple a b c =>
      cases e with
      | Tuple d f g => exact (h2 _ _ _ _ _ _ rfl rfl).elim
      | _ => rfl
    | _ => rfl
end
end Pv
end
section
set_option maxRecDepth 100000
set_option maxHeartbeats 4000000
namespace Pv
open PySem PySem.Spec PyProof.Rows L2
section
variable {G : GC} {S : SX} {C : Cl} {Wx : WX} {ea : Nat → Addr} {k : Nat} {X : Cx} {fr : Bool}
theorem t_thaw {a : CE} {σ : L2.St} {H : Hp} {Q : VK} (h : tE C X.K Wx ea false (.thaw a) σ H Q) : tE C X.K Wx ea true a σ H Q := by
  obtain ⟨W, e, s, R, En, h⟩ := h
  simp only [evE] at h
  refine ⟨W, e, s, R, En, ?_⟩
  cases q : evE C a e s with
  | bad => rw [q] at h; exact h.elim
  | exc _ _ _ => rw [q] at h; exact h
  | ok d s1 =>
    rw [q] at h
    intro W1 H1 v g1
    simp only [Out.bind] at h
    split at h
    · rename_i xs
      obtain ⟨p, vs, e1, np, o⟩ := g1.own rfl xs rfl
      subst e1
      split at h
      · have hl : W1.rho.length = s1.length := o.rel.len
        refine h ⟨W1.rho ++ [p], W1.av⟩ H1 (.ref p) ⟨g1.pres.cell np, o.cell, ?_, fun z => nomatch z⟩
        simp only [Rep]
        exact ⟨p, rfl, by rw [← hl]; simp⟩
      · exact h.elim
    · exact h.elim
theorem s_nev {st : Stmt} : PS X st (tS C X.K Wx ea fr .nev) := PS.by ps_never fun D σ H h => by
  obtain ⟨W, e, s, R, En, h⟩ := h
  exact h
theorem gs0 {K : PySem.W.Frag} {W : Wd} {H : Hp} {s : Sto} {e : Pv.En} {σ : L2.St} (R : RelSt K W s H) (En : RelEn K W H e σ) : GS K W H W s H e σ := ⟨Pres.refl, R, En⟩
theorem s_pas {pos : Pos} : PS X (.Pass pos) (tS C X.K Wx ea fr .pas) := PS.by ps_pass fun D σ H h => by
  obtain ⟨W, e, s, R, En, h⟩ := h
  exact h W H σ (gs0 R En)
theorem s_brk {pos : Pos} : PS X (.Break pos) (tS C X.K Wx ea fr .brk) := PS.by ps_break fun D σ H h => by
  obtain ⟨W, e, s, R, En, h⟩ := h
  exact h W H σ (gs0 R En)
theorem s_cnt {pos : Pos} : PS X (.Continue pos) (tS C X.K Wx ea fr .cnt) := PS.by ps_continue fun D σ H h => by
  obtain ⟨W, e, s, R, En, h⟩ := h
  exact h W H σ (gs0 R En)
theorem s_exp {a : CE} {x : Expr} {pos : Pos} (hn : notComp x = true) (ha : PE X x (tE C X.K Wx ea false a)) : PS X (.Expr x pos) (tS C X.K Wx ea fr (.exp a)) := by
  refine PS.by (ps_expr ha (notComp_sw hn)) fun D σ H h => ?_
  obtain ⟨W, e, s, R, En, h⟩ := h
  simp only [evS] at h
  refine ⟨W, e, s, R, En, (Sat.bind GE.gt GS.gt (h.toS En)).imp fun x H1 ⟨W1, s1, d1, g1, h1⟩ => ?_⟩
  exact h1 W1 H1 σ ⟨Pres.refl, g1.st, En.pres g1.pres⟩
theorem s_app {o a : CE} {l x : Expr} {apos cpos pos : Pos} (hb : baseB l = true) (hline : (apos.endLine == cpos.line) = true) (hs : noStar x = true) (ho : PE X l (tE C X.K Wx ea false o)) (ha : PE X x (tE C X.K Wx ea false a)) :
    PS X (.Expr (.Call (.Attribute l "append" apos) [x] [] cpos) pos) (tS C X.K Wx ea fr (.app o a)) := by
  refine PS.by (ps_expr (pe_bm PySem.F.plainAttrs_list PySem.F.slot_list_append PySem.F.type_list_append mt_appD ho (pa_cons ha pa_nil (star_cons hs)) (base_ok hb) (by rw [star_cons hs]; rfl) hline (star_cons hs) rfl)) fun D σ H h => ?_
  obtain ⟨W, e, s, R, En, h⟩ := h
  simp only [evS] at h
  refine ⟨W, e, s, R, En, (Sat.bind GE.gt GS.gt (h.toS En)).imp fun y H1 ⟨W1, s1, d1, g1, h1⟩ => ?_⟩
  obtain ⟨n, e1, h1⟩ := h1.onLoc
  subst e1
  refine ⟨loc_list g1.st g1.rep, W1, e, s1, g1.st, En.pres g1.pres, (Sat.bind GE.gt GS.gt h1).imp fun z H2 ⟨W2, s2, d2, g2, h2⟩ => ?_⟩
  simp only [appC] at h2
  split at h2
  · rename_i xs q
    split at h2
    · rename_i hl
      rcases putC_exc (n := n) (c := .lst (xs ++ [d2])) (s := s2) with ⟨s3, q3⟩ | q3
      · rw [q3] at h2
        exact ⟨W2, s2, n, d2, z, xs, s3, (), g2.st, Rep.pres g2.pres g1.rep, rfl, g2.rep, q, hl, q3, fun H' c => h2 W2 H' σ ⟨c.pres, c.st, (En.pres (g1.pres.trans g2.pres)).pres c.pres⟩⟩
      · rw [q3] at h2; exact h2.elim
    · exact h2.elim
  · exact h2.elim
theorem s_ext {o a : CE} {l x : Expr} {apos cpos pos : Pos} (hb : baseB l = true) (hline : (apos.endLine == cpos.line) = true) (hs : noStar x = true) (ho : PE X l (tE C X.K Wx ea false o)) (ha : PE X x (tE C X.K Wx ea true a)) :
    PS X (.Expr (.Call (.Attribute l "extend" apos) [x] [] cpos) pos) (tS C X.K Wx ea fr (.ext o a)) := by
  refine PS.by (ps_expr (pe_bm PySem.F.plainAttrs_list PySem.F.slot_list_extend PySem.F.type_list_extend mt_extD ho (pa_cons ha pa_nil (star_cons hs)) (base_ok hb) (by rw [star_cons hs]; rfl) hline (star_cons hs) rfl)) fun D σ H h => ?_
  obtain ⟨W, e, s, R, En, h⟩ := h
  simp only [evS] at h
  refine ⟨W, e, s, R, En, (Sat.bind GE.gt GS.gt (h.toS En)).imp fun y H1 ⟨W1, s1, d1, g1, h1⟩ => ?_⟩
  obtain ⟨n, e1, h1⟩ := h1.onLoc
  subst e1
  refine ⟨loc_list g1.st g1.rep, W1, e, s1, g1.st, En.pres g1.pres, (Sat.bind (GE.gt (fr := true)) GS.gt h1).imp fun z H2 ⟨W2, s2, d2, g2, h2⟩ => ?_⟩
  split at h2
  · rename_i ys q0
    simp only [extC] at h2
    split at h2
    · rename_i xs q
      split at h2
      · rename_i hl
        rcases putC_exc (n := n) (c := .lst (xs ++ ys)) (s := s2) with ⟨s3, q3⟩ | q3
        · rw [q3] at h2
          have trk : ∃ p zs, z = .ref p ∧ H2 p = some (.lst zs) ∧ Reps X.K W2 H2 ys zs := by
            cases d2 with
            | lst ds =>
              obtain ⟨p', vs, e1, _, ow⟩ := g2.own rfl ds rfl
              simp only [rd, Pv.D.lst.injEq] at q0
              subst q0
              exact ⟨p', vs, e1, ow.at_, Reps.by keeps_unavo ds (reps_below ds ow.reps) ow.reps⟩
            | loc m =>
              have r := g2.rep
              simp only [Rep] at r
              obtain ⟨p', e1, r⟩ := r
              obtain ⟨ds, vs, c1, c2, c3, _⟩ := g2.st.cell m p' r
              simp only [rd, List.getD_eq_getElem?_getD, c1, Option.getD_some, Pv.D.lst.injEq] at q0
              subst q0
              exact ⟨p', vs, e1, c2, c3⟩
            | _ => simp [rd] at q0
          obtain ⟨p, zs, ez, hz, rz⟩ := trk
          exact ⟨W2, s2, n, p, zs, xs, ys, s3, (), g2.st, Rep.pres g2.pres g1.rep, by rw [ez], hz, rz, q, hl, q3, fun H' c => h2 W2 H' σ ⟨c.pres, c.st, (En.pres (g1.pres.trans g2.pres)).pres c.pres⟩⟩
        · rw [q3] at h2; exact h2.elim
      · exact h2.elim
    · exact h2.elim
  · exact h2.elim
/-! ### assignments -/
theorem s_asg {t : Tg} {a : CE} {tg x : Expr} {pos : Pos} (hn : swapsWithSole [tg] x pos.line X.env = pure false) (hst : noStar tg = true) (hw : swappedStores [tg] x X.env = pure none) (ht : PG X tg (tG C X.K Wx ea t)) (ha : PE X x (tE C X.K Wx ea false a)) : PS X (.Assign [tg] x pos) (tS C X.K Wx ea fr (.asg t a)) := by
  refine PS.by (ps_asg ha ht hn hw (by rw [assign_cons hst]; rfl)) fun D σ H h => ?_
  obtain ⟨W, e, s, R, En, h⟩ := h
  simp only [evS] at h
  refine ⟨W, e, s, R, En, (Sat.bind GE.gt GS.gt (h.toS En)).imp fun y H1 ⟨W1, s1, d1, g1, h1⟩ => ?_⟩
  exact ⟨W1, e, s1, d1, g1.st, En.pres g1.pres, g1.rep, h1.weak fun g => ⟨g.1, g.2.1, g.2.2.1⟩⟩
theorem t_asgLc {i : Nat} {a : CE} {D : Ends} {σ : L2.St} {H : Hp} (h : tS C X.K Wx ea fr (.asg (.nm i) a) D σ H) : tE C X.K Wx ea false a σ H fun x H1 => D.nx (σ.set i (some x)) H1 := by
  obtain ⟨W, e, s, R, En, h⟩ := h
  simp only [evS] at h
  refine ⟨W, e, s, R, En, (Sat.bind GE.gt GS.gt (h.toS En)).imp fun y H1 ⟨W1, s1, d1, g1, h1⟩ => ?_⟩
  simp only [evT] at h1
  exact h1 W1 H1 _ ⟨Pres.refl, g1.st, (En.pres g1.pres).set g1.rep i⟩
theorem t_frE {e : CE} {σ : L2.St} {H : Hp} {Q : VK} (h : tE C X.K Wx ea false e σ H Q) : tE C X.K Wx ea true e σ H Q := by
  obtain ⟨W, e, s, R, En, h⟩ := h
  exact ⟨W, e, s, R, En, h.weak fun g => Got.weak (fr := true) g⟩
theorem kind_of (c : Ctx G S C Wx ea k X) (h : scFun S = true) : X.env.scope.kind = .function := by
  rw [c.sc]
  unfold scFun at h
  split at h
  · assumption
  · cases h
theorem chkE_thaw {a : CE} {x : Expr} : chkE G S (.thaw a) x = (fresh G a && chkE G S a x) := by rw [chkE]
theorem s_asgLc {i : Nat} {a : CE} {y : Str} {py cp pos : Pos} {el u it : Expr} {fs : List Expr} {scope : Scope} (c : Ctx G S C Wx ea k X) (hk : scFun S = true) (hi : S.N[i]? = some y) (hl : loc1 S y = true) (hline : (py.line == cp.line) = true)
    (hany : (scope.names.any fun (n, k) => n == y && (k == .local || k == .cell)) = false) (hc : chkE G S a (.ListComp el [⟨u, it, fs, 0⟩] scope cp) = true) (hq : (isCompE a).isSome = true) :
    PS X (.Assign [.Name y py] (.ListComp el [⟨u, it, fs, 0⟩] scope cp) pos) (tS C X.K Wx ea fr (.asg (.nm i) a)) := by
  have hly : X.env.scope.names.lookup y = some .local := by rw [c.sc]; exact of_decide_eq_true hl
  have core : ∀ {own tg ci ifs elt}, chkE G S (.comp own tg ci ifs elt) (.ListComp el [⟨u, it, fs, 0⟩] scope cp) = true → (∀ D σ H, tS C X.K Wx ea fr (.asg (.nm i) a) D σ H → tE C X.K Wx ea true (.comp own tg ci ifs elt) σ H fun x H1 => D.nx (σ.set i (some x)) H1) →
      PS X (.Assign [.Name y py] (.ListComp el [⟨u, it, fs, 0⟩] scope cp) pos) (tS C X.K Wx ea fr (.asg (.nm i) a)) := fun {own tg ci ifs elt} h hr => by
    unfold chkE at h
    simp only [Bool.and_eq_true] at h
    obtain ⟨⟨⟨⟨⟨⟨h1, h2⟩, h3⟩, h4⟩, h5⟩, h6⟩, h7⟩ := h
    have hb : BlkOk X.N X.env.scope scope own := by rw [c.N, c.sc]; exact blkOk_by h1
    refine PS.by (ps_setLc (wi := tI C X.K Wx ea ci) (g := tG C X.K (fun _ _ _ _ => False) ea tg) (tt := tF C X.K (fun _ _ _ _ => False) ea ifs) (te := tE C X.K (fun _ _ _ _ => False) ea false elt) c.calm c.nd (by rw [c.N]; exact hi) hly (sw_true (kind_of c hk) hly hline hany)
      (sI G C ea k ci S Wx X it u c h2 (fun w => ?_)) hb (fun s H CA cl fp => ?_) (fun s H CA cl fp => ?_) (fun s H CA cl fp => ?_) (noSet_fold (chkI_set h2))) fun D σ H w => t_comp h4 (hr D σ H w)
    · revert h3
      cases ci <;> first | (intro _; cases w; done) | (cases u <;> intro h3 <;> first | rfl | cases h3)
    · exact sT G C ea k tg _ _ _ _ _ (c.blk s H CA cl fp) h5
    · exact sFs G C ea k ifs _ _ _ _ (c.blk s H CA cl fp) h6
    · exact (sE G C ea k elt _ _ _ _ (c.blk s H CA cl fp) h7).1 false (fun z => nomatch z)
  unfold isCompE at hq
  split at hq
  · exact core hc fun D σ H w => t_frE (t_asgLc w)
  · rw [chkE_thaw, Bool.and_eq_true] at hc
    exact core hc.2 fun D σ H w => t_thaw (t_asgLc w)
  · cases hq
theorem set_none {e : Pv.En} {s : Sto} {c : Cl} {i j : Nat} {d1 d2 : Pv.D} : evT c (.tp (.cons (.nm i) (.cons (.nm j) .nil))) (.tup [d1, d2]) e s = .ok ((e.set i (some d1)).set j (some d2)) s := rfl
theorem set_none3 {e : Pv.En} {s : Sto} {c : Cl} {i j l : Nat} {d1 d2 d3 : Pv.D} : evT c (.tp (.cons (.nm i) (.cons (.nm j) (.cons (.nm l) .nil)))) (.tup [d1, d2, d3]) e s = .ok (((e.set i (some d1)).set j (some d2)).set l (some d3)) s := rfl
theorem blockKind_of {env : Env} (h : env.scope.kind = .function) : env.blockKind = .function := by unfold Env.blockKind; rw [h]; rfl
theorem idx_ne {N : List Str} {i j : Nat} {x y : Str} (h1 : N[i]? = some x) (h2 : N[j]? = some y) (h : x ≠ y) : i ≠ j := fun e => by subst e; rw [h1] at h2; cases h2; exact h rfl
theorem star_no {e : Expr} (q : (match e with
    | .Starred _ _ => true
    | _ => false) = true) (h : noStar e = true) : False := by
  cases e <;> first | (cases q; done) | (cases h; done)
theorem swap_of {env : Env} {ts vs : List Expr} {k1 k2 : Nat} {p1 p2 : Pos} {names : List Str} (hk : env.blockKind = .function) (hlen : ts.length = 2 ∨ ts.length = 3) (hvl : vs.length = ts.length) (hs : swapAsg vs = true)
    (hn : (ts.filterMap fun
      | .Name id pos => if env.kindOf id == some .local && pos.line == (ts.head?.map (·.pos.line)).getD 0 then some id else none
      | _ => none) = names) (hd : names.length = ts.length) (hdd : names.eraseDups.length = names.length) : swappedStores [.Tuple ts k1 p1] (.Tuple vs k2 p2) env = pure (some names) := by
  unfold swapAsg at hs
  simp only [Bool.and_eq_true, Bool.not_eq_true', List.all_eq_true] at hs
  obtain ⟨⟨h1, h2⟩, h3⟩ := hs
  unfold swappedStores
  simp only
  split
  · rename_i h
    exfalso
    rcases hlen with q | q <;> simp [q, hvl, hk] at h
  · split
    · rename_i h
      exfalso
      obtain ⟨e, he, hb⟩ := List.any_eq_true.mp h
      exact star_no hb (h3 e he)
    · generalize hg : List.filterMap _ ts = nm
      have en : nm = names := by rw [← hg]; exact hn
      subst en
      split
      · rename_i h
        exfalso
        simp [hd, hdd] at h
      · split
        · rename_i h
          rw [h1] at h
          cases h
        · split
          · rename_i h
            rw [h2] at h
            cases h
          · rfl
theorem Reps.one' {K : PySem.W.Frag} {W : Wd} {H : Hp} {d : Pv.D} {ds : List Pv.D} {vs : List V} (h : Reps K W H (d :: ds) vs) : ∃ v r, vs = v :: r ∧ Rep K W H d v ∧ Reps K W H ds r := h
theorem Reps.two {K : PySem.W.Frag} {W : Wd} {H : Hp} {ds : List Pv.D} {vs : List V} (h : Reps K W H ds vs) (hl : ds.length = 2) : ∃ d1 d2 v1 v2, ds = [d1, d2] ∧ vs = [v1, v2] ∧ Rep K W H d1 v1 ∧ Rep K W H d2 v2 := by
  match ds, hl with
  | [d1, d2], _ =>
    obtain ⟨v1, r, e1, h1, h2⟩ := h.one'
    obtain ⟨v2, r2, e2, h3, h4⟩ := h2.one'
    have h4 : r2 = [] := h4
    exact ⟨d1, d2, v1, v2, rfl, by rw [e1, e2, h4], h1, h3⟩
theorem Reps.three {K : PySem.W.Frag} {W : Wd} {H : Hp} {ds : List Pv.D} {vs : List V} (h : Reps K W H ds vs) (hl : ds.length = 3) : ∃ d1 d2 d3 v1 v2 v3, ds = [d1, d2, d3] ∧ vs = [v1, v2, v3] ∧ Rep K W H d1 v1 ∧ Rep K W H d2 v2 ∧ Rep K W H d3 v3 := by
  match ds, hl with
  | [d1, d2, d3], _ =>
    obtain ⟨v1, r, e1, h1, h2⟩ := h.one'
    obtain ⟨v2, r2, e2, h3, h4⟩ := h2.one'
    obtain ⟨v3, r3, e3, h5, h6⟩ := h4.one'
    have h6 : r3 = [] := h6
    exact ⟨d1, d2, d3, v1, v2, v3, rfl, by rw [e1, e2, e3, h6], h1, h3, h5⟩
theorem s_swap2 {i j : Nat} {es : CEs} {x y : Str} {b d : Expr} {px py pt pos : Pos} {kt k2 : Nat} {pt2 : Pos} (c : Ctx G S C Wx ea k X) (hk : scFun S = true) (hi : S.N[i]? = some x) (hj : S.N[j]? = some y) (hxy : x ≠ y) (hx : loc1 S x = true) (hy : loc1 S y = true) (hl : (py.line == px.line) = true)
    (hs : swapAsg [b, d] = true) (hc : chkEs G S es [b, d] = true) (ha : PA X [b, d] (tA C X.K Wx ea es)) :
    PS X (.Assign [.Tuple [.Name x px, .Name y py] kt pt] (.Tuple [b, d] k2 pt2) pos) (tS C X.K Wx ea fr (.asg (.tp (.cons (.nm i) (.cons (.nm j) .nil))) (.tup es))) := by
  have hlx : X.env.scope.names.lookup x = some .local := by rw [c.sc]; exact of_decide_eq_true hx
  have hly : X.env.scope.names.lookup y = some .local := by rw [c.sc]; exact of_decide_eq_true hy
  have kx : X.env.kindOf x = some .local := hlx
  have ky : X.env.kindOf y = some .local := hly
  have hl' : py.line = px.line := eq_of_beq hl
  have hsw : swappedStores [.Tuple [.Name x px, .Name y py] kt pt] (.Tuple [b, d] k2 pt2) X.env = pure (some [x, y]) := by
    refine swap_of (blockKind_of (kind_of c hk)) (.inl rfl) rfl hs ?_ rfl (by simp [List.eraseDups_cons, Ne.symm hxy])
    rw [show (([Expr.Name x px, Expr.Name y py].head?).map fun e => e.pos.line).getD 0 = px.line from rfl]
    simp only [List.filterMap_cons, List.filterMap_nil, kx, ky, hl', beq_self_eq_true, Bool.and_self, if_true]
  have hi' : X.N[i]? = some x := by rw [c.N]; exact hi
  have hj' : X.N[j]? = some y := by rw [c.N]; exact hj
  have hso : swapsWithSole [.Tuple [.Name x px, .Name y py] kt pt] (.Tuple [b, d] k2 pt2) pos.line X.env = pure false := notComp_sole rfl
  have P := ps_par (pos := pos) c.calm c.nd hi' hj' (idx_ne hi hj hxy) hlx hly ha hsw hso
  refine PS.by P fun D σ H h => ?_
  obtain ⟨W, e, s, R, En, h⟩ := h
  simp only [evS, evE, bind_assoc] at h
  obtain ⟨W0, e0, s0, R0, En0, h0⟩ := t_args GS.gt hc R En (h.toS En)
  refine ⟨W0, e0, s0, R0, En0, h0.imp fun vs H1 ⟨W1, s1, ds, p1, r1, q1, l1, h1⟩ => ?_⟩
  obtain ⟨d1, d2, v1, v2, rfl, rfl, r11, r12⟩ := q1.two (by rw [q1.length, l1]; rfl)
  · rw [show (Out.ok (Pv.D.tup [d1, d2]) s1 : Out Pv.D).bind (fun d s => evT C (.tp (.cons (.nm i) (.cons (.nm j) .nil))) d e s) = .ok ((e.set i (some d1)).set j (some d2)) s1 from rfl] at h1
    exact ⟨v1, v2, rfl, h1 W1 H1 _ ⟨Pres.refl, r1, ((En.pres p1).set r11 i).set r12 j⟩⟩
end
end Pv
end
section
set_option maxRecDepth 100000
set_option maxHeartbeats 1000000
namespace Pv
open PySem PySem.Spec PyProof.Rows L2
section
variable {G : GC} {S : SX} {C : Cl} {Wx : WX} {ea : Nat → Addr} {k : Nat} {X : Cx} {fr : Bool}
theorem s_swap3 {i j l : Nat} {es : CEs} {x y z : Str} {b d f : Expr} {px py pz pt pos : Pos} {kt k2 : Nat} {pt2 : Pos} (c : Ctx G S C Wx ea k X) (hk : scFun S = true) (hi : S.N[i]? = some x) (hj : S.N[j]? = some y) (hll : S.N[l]? = some z)
    (hxy : x ≠ y) (hxz : x ≠ z) (hyz : y ≠ z) (hx : loc1 S x = true) (hy : loc1 S y = true) (hz : loc1 S z = true) (hl : (py.line == px.line) = true) (hl2 : (pz.line == px.line) = true)
    (hs : swapAsg [b, d, f] = true) (hc : chkEs G S es [b, d, f] = true) (ha : PA X [b, d, f] (tA C X.K Wx ea es)) :
    PS X (.Assign [.Tuple [.Name x px, .Name y py, .Name z pz] kt pt] (.Tuple [b, d, f] k2 pt2) pos) (tS C X.K Wx ea fr (.asg (.tp (.cons (.nm i) (.cons (.nm j) (.cons (.nm l) .nil)))) (.tup es))) := by
  have hlx : X.env.scope.names.lookup x = some .local := by rw [c.sc]; exact of_decide_eq_true hx
  have hly : X.env.scope.names.lookup y = some .local := by rw [c.sc]; exact of_decide_eq_true hy
  have hlz : X.env.scope.names.lookup z = some .local := by rw [c.sc]; exact of_decide_eq_true hz
  have kx : X.env.kindOf x = some .local := hlx
  have ky : X.env.kindOf y = some .local := hly
  have kz : X.env.kindOf z = some .local := hlz
  have hl' : py.line = px.line := eq_of_beq hl
  have hl2' : pz.line = px.line := eq_of_beq hl2
  have hsw : swappedStores [.Tuple [.Name x px, .Name y py, .Name z pz] kt pt] (.Tuple [b, d, f] k2 pt2) X.env = pure (some [x, y, z]) := by
    refine swap_of (blockKind_of (kind_of c hk)) (.inr rfl) rfl hs ?_ rfl (by simp [List.eraseDups_cons, Ne.symm hxy, Ne.symm hxz, Ne.symm hyz])
    rw [show (([Expr.Name x px, Expr.Name y py, Expr.Name z pz].head?).map fun e => e.pos.line).getD 0 = px.line from rfl]
    simp only [List.filterMap_cons, List.filterMap_nil, kx, ky, kz, hl', hl2', beq_self_eq_true, Bool.and_self, if_true]
  have hi' : X.N[i]? = some x := by rw [c.N]; exact hi
  have hj' : X.N[j]? = some y := by rw [c.N]; exact hj
  have hl3 : X.N[l]? = some z := by rw [c.N]; exact hll
  have hso : swapsWithSole [.Tuple [.Name x px, .Name y py, .Name z pz] kt pt] (.Tuple [b, d, f] k2 pt2) pos.line X.env = pure false := notComp_sole rfl
  have P := ps_par3 (pos := pos) c.calm c.nd hi' hj' hl3 (idx_ne hi hj hxy) (idx_ne hi hll hxz) (idx_ne hj hll hyz) hlx hly hlz ha hsw hso
  refine PS.by P fun D σ H h => ?_
  obtain ⟨W, e, s, R, En, h⟩ := h
  simp only [evS, evE, bind_assoc] at h
  obtain ⟨W0, e0, s0, R0, En0, h0⟩ := t_args GS.gt hc R En (h.toS En)
  refine ⟨W0, e0, s0, R0, En0, h0.imp fun vs H1 ⟨W1, s1, ds, p1, r1, q1, l1, h1⟩ => ?_⟩
  obtain ⟨d1, d2, d3, v1, v2, v3, rfl, rfl, r11, r12, r13⟩ := q1.three (by rw [q1.length, l1]; rfl)
  · rw [show (Out.ok (Pv.D.tup [d1, d2, d3]) s1 : Out Pv.D).bind (fun d s => evT C (.tp (.cons (.nm i) (.cons (.nm j) (.cons (.nm l) .nil)))) d e s) = .ok (((e.set i (some d1)).set j (some d2)).set l (some d3)) s1 from rfl] at h1
    exact ⟨v1, v2, v3, rfl, h1 W1 H1 _ ⟨Pres.refl, r1, (((En.pres p1).set r11 i).set r12 j).set r13 l⟩⟩
def augOp : Op → Operator
  | .add => .Add
  | _ => .Sub
theorem ip_aug {o : Op} : PIp X (augOp o) (ipI fun m n => match o with
      | .add => m + n
      | _ => m - n) := by
  cases o <;> first | exact ip_add | exact ip_sub
theorem s_aug {i : Nat} {o : Op} {a : CE} {x : Str} {e : Expr} {p pos : Pos} (c : Ctx G S C Wx ea k X) (hi : S.N[i]? = some x) (hs : stoB S x = true) (ha : PE X e (tE C X.K Wx ea false a)) : PS X (.AugAssign (.Name x p) (augOp o) e pos) (tS C X.K Wx ea fr (.aug i o a)) := by
  have hl : locB S.sc x = true := by unfold stoB at hs; simp only [Bool.and_eq_true] at hs; exact hs.1
  refine PS.by (ps_aug c.nd (by rw [c.N]; exact hi) (by rw [c.sc]; exact loc_of hl) ha (ip_aug (o := o)) (c.sto x hs)) fun D σ H h => ?_
  obtain ⟨W, en, s, R, En, h⟩ := h
  simp only [evS, evE] at h
  have h := h.toS En
  split at h
  · rename_i d hd
    simp only [Out.bind] at h
    obtain ⟨v, e1, rv⟩ := En.2 i d hd
    refine ⟨v, e1, W, en, s, R, En, (Sat.bind GE.gt GS.gt h).imp fun y H1 ⟨W1, s1, d1, g1, h1⟩ => ?_⟩
    split at h1
    · exact ⟨_, _, rv, g1.rep, h1 W1 H1 _ ⟨Pres.refl, g1.st, (En.pres g1.pres).set (d := .int _) (v := .int _) rfl i⟩⟩
    · exact h1.elim
  · exact h.elim
/-! ### flow -/
theorem s_ret {a : CE} {e : Expr} {pos : Pos} (ha : PE X e (tE C X.K Wx ea fr a)) : PS X (.Return (some e) pos) (tS C X.K Wx ea fr (.ret a)) := by
  refine PS.by (ps_ret ha) fun D σ H h => ?_
  obtain ⟨W, en, s, R, En, h⟩ := h
  simp only [evS] at h
  exact ⟨W, en, s, R, En, Sat.excS En h fun d s1 _ h1 => h1⟩
theorem s_retL {a : CE} {e : Expr} {pos : Pos} (ha : PE X e (tE C X.K Wx ea false a)) : PS X (.Return (some e) pos) (tS C X.K Wx ea fr (.retL a)) := by
  refine PS.by (ps_ret ha) fun D σ H h => ?_
  obtain ⟨W, en, s, R, En, h⟩ := h
  simp only [evS] at h
  refine ⟨W, en, s, R, En, Sat.excS En h fun d s1 _ h1 => ?_⟩
  cases d with
  | loc n => exact fun W' H' v g => h1 W' H' v ⟨g.pres, g.st, g.rep, fun _ ds z => nomatch z⟩
  | _ => exact h1.elim
theorem s_ret0 {pos : Pos} : PS X (.Return none pos) (tS C X.K Wx ea fr .ret0) := PS.by ps_retN fun D σ H h => by
  obtain ⟨W, e, s, R, En, h⟩ := h
  exact h W H .non (Got.val R rfl rfl)
theorem s_ife {t : CE} {a b : CSs} {u : Expr} {p q : List Stmt} {pos : Pos} (ht : PT X u (tT C X.K Wx ea t)) (ha : PSs X p (tSs C X.K Wx ea fr a)) (hb : PSs X q (tSs C X.K Wx ea fr b)) : PS X (.If u p q pos) (tS C X.K Wx ea fr (.ife t a b)) := by
  refine PS.by (ps_if ht ha hb) fun D σ H h => ?_
  obtain ⟨W, en, s, R, En, h⟩ := h
  simp only [evS] at h
  refine ⟨W, en, s, R, En, Sat.excS En h fun kk s1 _ h1 W' H' b' g => ?_⟩
  obtain ⟨g1, g2, rfl⟩ := g
  cases kk with
  | true =>
    simp only [if_true] at h1 ⊢
    exact ⟨W', en, s1, g2, En.pres g1, h1.pres g1⟩
  | false =>
    simp only [Bool.false_eq_true, if_false] at h1 ⊢
    exact ⟨W', en, s1, g2, En.pres g1, h1.pres g1⟩
theorem ss_nil : PSs X [] (tSs C X.K Wx ea fr .nil) := PSs.by pss_nil fun D σ H h => by
  obtain ⟨W, e, s, R, En, h⟩ := h
  exact h W H σ (gs0 R En)
theorem ss_cons {a : CS} {r : CSs} {x : Stmt} {l : List Stmt} (ha : PS X x (tS C X.K Wx ea fr a)) (hr : PSs X l (tSs C X.K Wx ea fr r)) : PSs X (x :: l) (tSs C X.K Wx ea fr (.cons a r)) := by
  refine PSs.by (pss_cons ha hr) fun D σ H h => ?_
  obtain ⟨W, en, s, R, En, h⟩ := h
  simp only [evSs] at h
  refine ⟨W, en, s, R, En, ?_⟩
  cases q : evS C a en s with
  | nx e1 s1 =>
    rw [q] at h
    exact fun W' H' σ' g => ⟨W', e1, s1, g.2.1, g.2.2, SatS.pres g.1 h⟩
  | brk e1 s1 => rw [q] at h; exact h
  | cnt e1 s1 => rw [q] at h; exact h
  | ret d s1 => rw [q] at h; exact h
  | exc k v e1 s1 => rw [q] at h; exact h
  | bad => rw [q] at h; exact h
theorem s_whl {t : CE} {b : CSs} {u : Expr} {l : List Stmt} {pos : Pos} (hp : PassesOwn (model X.prog X.w) X.A X.env X.xe) (ht : PT X u (tT C X.K Wx ea t)) (hb : PSs X l (tSs C X.K Wx ea fr b)) : PS X (.While u l [] pos) (tS C X.K Wx ea fr (.whl t b)) := by
  refine PS.by (ps_while hp ht hb) fun D σ H h => ?_
  obtain ⟨W, en, s, R, En, h⟩ := h
  simp only [evS] at h
  refine ⟨fun m σ H => ∃ W e s, RelSt X.K W s H ∧ RelEn X.K W H e σ ∧ SatS X.K Wx ea fr W H (loopW (fun e s => (evE C t e s).bind truth) (fun e s => evSs C b e s) m e s) D, ⟨_, W, en, s, R, En, h⟩, ?_⟩
  rintro m σ H ⟨W, e, s, R, En, h⟩
  cases m with
  | zero => exact h.elim
  | succ m =>
    simp only [loopW] at h
    refine ⟨W, e, s, R, En, ?_⟩
    cases q : (evE C t e s).bind truth with
    | bad => rw [q] at h; exact h.elim
    | exc k v s1 => rw [q] at h; exact ⟨h.1, fun W' H' p r => h.2 W' H' σ ⟨p, r, En.pres p⟩⟩
    | ok kk s1 =>
      rw [q] at h
      rintro W1 H1 b1 ⟨p1, r1, rfl⟩
      have En1 := En.pres p1
      cases kk with
      | false =>
        simp only [Bool.false_eq_true, if_false]
        exact h W1 H1 σ ⟨p1, r1, En1⟩
      | true =>
        simp only [if_true]
        refine ⟨fun σ' H' => ∃ W e s, RelSt X.K W s H' ∧ RelEn X.K W H' e σ' ∧ SatS X.K Wx ea fr W H' (loopW (fun e s => (evE C t e s).bind truth) (fun e s => evSs C b e s) m e s) D, fun σ' H' n => ⟨m, Nat.lt_succ_self m, n⟩, W1, e, s1, r1, En1, ?_⟩
        have h : SatS X.K Wx ea fr W H (match evSs C b e s1 with
          | .nx e2 s2 => loopW (fun e s => (evE C t e s).bind truth) (fun e s => evSs C b e s) m e2 s2
          | .cnt e2 s2 => loopW (fun e s => (evE C t e s).bind truth) (fun e s => evSs C b e s) m e2 s2
          | .brk e2 s2 => .nx e2 s2
          | x => x) D := h
        have h := h.pres p1
        cases q2 : evSs C b e s1 with
        | nx e2 s2 => rw [q2] at h; exact fun W' H' σ' g => ⟨W', e2, s2, g.2.1, g.2.2, SatS.pres g.1 h⟩
        | cnt e2 s2 => rw [q2] at h; exact fun W' H' σ' g => ⟨W', e2, s2, g.2.1, g.2.2, SatS.pres g.1 h⟩
        | brk e2 s2 => rw [q2] at h; exact h
        | ret d s2 => rw [q2] at h; exact h
        | exc k v e2 s2 => rw [q2] at h; exact h
        | bad => rw [q2] at h; exact h
theorem s_for {t : Tg} {it : CI} {b : CSs} {tg i : Expr} {l : List Stmt} {pos : Pos} (hp : PassesOwn (model X.prog X.w) X.A X.env X.xe) (hc : X.calm = true) (hi : PI X tg i (tI C X.K Wx ea it)) (ht : PG X tg (tG C X.K Wx ea t)) (hb : PSs X l (tSs C X.K Wx ea fr b)) (hs : noSet i = true) :
    PS X (.For tg i l [] pos) (tS C X.K Wx ea fr (.for_ t it b)) := by
  refine PS.by (ps_for hp hc hi ht hb (noSet_fold hs)) fun D σ H h => ?_
  obtain ⟨W, en, s, R, En, h⟩ := h
  simp only [evS] at h
  refine ⟨W, en, s, R, En, Sat.excS En h fun w s1 _ h1 W1 H1 J g => ?_⟩
  obtain ⟨ds, gd⟩ := w
  obtain ⟨p1, R1, Sq, wd, sq⟩ := g
  have h1 := h1.pres p1
  have En1 := En.pres p1
  generalize hbd : (fun (d : Pv.D) (e : Pv.En) (s : Sto) => thenS (evT C t d e s) e fun e1 s1 => evSs C b e1 s1) = body at h1
  have hbody : ∀ d e s, body d e s = thenS (evT C t d e s) e fun e1 s1 => evSs C b e1 s1 := fun d e s => by rw [← hbd]
  clear hbd
  simp only at h1
  refine ⟨fun i m σ H => m = ds.length - i ∧ i ≤ ds.length ∧ ∃ W e s, Pres W1 H1 W H ∧ RelSt X.K W s H ∧ RelEn X.K W H e σ ∧ SatS X.K Wx ea fr W H (loopS body gd (ds.drop i) e s) D, ⟨ds.length, by simp, Nat.zero_le _, W1, en, s1, Pres.refl, R1, En1, h1⟩, ?_⟩
  rintro i m σ H ⟨rfl, hi, W, e, s, p, R, En, h⟩
  have sq2 : Sq W H := wd.mono (p.keeps _) sq
  by_cases hlt : i < ds.length
  · right
    rw [List.drop_eq_getElem_cons hlt] at h
    simp only [loopS] at h
    split at h
    case isFalse => exact h.elim
    rename_i hg
    refine ⟨wd.go i _ s H hlt R hg sq2, fun σ' H' => ∃ W e s, Pres W1 H1 W H' ∧ RelSt X.K W s H' ∧ RelEn X.K W H' e σ' ∧ SatS X.K Wx ea fr W H' (loopS body gd (ds.drop (i + 1)) e s) D,
      fun σ' H' nx => ⟨ds.length - (i + 1), by omega, rfl, hlt, nx⟩, fun x H3 y3 => ?_⟩
    obtain ⟨d, ed, p3, R3, r3⟩ := wd.yld i _ s H x H3 hlt R hg sq2 y3
    rw [List.getElem?_eq_getElem hlt] at ed
    cases ed
    have h := h.pres p3
    rw [hbody] at h
    refine ⟨W, e, s, ds[i], R3, En.pres p3, r3, ?_⟩
    cases q1 : evT C t ds[i] e s with
    | bad => rw [q1] at h; exact h.elim
    | exc _ _ _ => exact absurd q1 (evT_no t _ e s)
    | ok e1 t1 =>
      rw [q1] at h
      rintro W4 H4 σ4 ⟨p4, R4, En4, _⟩
      have h := h.pres p4
      refine ⟨W4, e1, t1, R4, En4, ?_⟩
      have p14 := p.trans (p3.trans p4)
      simp only [thenS] at h
      cases q2 : evSs C b e1 t1 with
      | nx e2 s2 => rw [q2] at h; exact fun W' H' σ' g => ⟨W', e2, s2, p14.trans g.1, g.2.1, g.2.2, SatS.pres g.1 h⟩
      | cnt e2 s2 => rw [q2] at h; exact fun W' H' σ' g => ⟨W', e2, s2, p14.trans g.1, g.2.1, g.2.2, SatS.pres g.1 h⟩
      | brk e2 s2 => rw [q2] at h; exact h
      | ret d s2 => rw [q2] at h; exact h
      | exc k v e2 s2 => rw [q2] at h; exact h
      | bad => rw [q2] at h; exact h
  · left
    have ei : i = ds.length := by omega
    subst ei
    rw [List.drop_length] at h
    simp only [loopS] at h
    split at h
    case isFalse => exact h.elim
    rename_i hg
    exact ⟨wd.stop _ s H R hg sq2, h W H σ (gs0 R En)⟩
/-- where statements stand -/
structure CtxS (G : GC) (S : SX) (C : Cl) (Wx : WX) (ea : Nat → Addr) (k : Nat) (X : Cx) : Prop extends Ctx G S C Wx ea k X where
  pass : PassesOwn (model X.prog X.w) X.A X.env X.xe
theorem pE (c : Ctx G S C Wx ea k X) {a : CE} {x : Expr} (h : chkE G S a x = true) : PE X x (tE C X.K Wx ea false a) := (sE G C ea k a S Wx X x c h).1 false (fun z => nomatch z)
theorem pT (c : Ctx G S C Wx ea k X) {a : CE} {x : Expr} (h : chkE G S a x = true) (t : tst a = true) : PT X x (tT C X.K Wx ea a) := (sE G C ea k a S Wx X x c h).2.1 t
theorem aug_eq {o : Op} {op : Operator} (h : augB o op = true) : op = augOp o := by cases o <;> cases op <;> first | rfl | cases h
variable (G C ea k)
theorem sExp (c : CtxS G S C Wx ea k X) {a : CE} {x : Stmt} (h : chkExp G S a x = true) : PS X x (tS C X.K Wx ea fr (.exp a)) := by
  unfold chkExp at h
  split at h
  · rw [Bool.and_eq_true] at h
    exact s_exp h.1 (pE c.toCtx h.2)
  · cases h
theorem sApp (c : CtxS G S C Wx ea k X) {o a : CE} {x : Stmt} (h : chkApp G S o a x = true) : PS X x (tS C X.K Wx ea fr (.app o a)) := by
  unfold chkApp at h
  split at h
  · simp only [Bool.and_eq_true, decide_eq_true_eq] at h
    obtain ⟨⟨⟨⟨⟨h1, h2⟩, h3⟩, h4⟩, h5⟩, h6⟩ := h
    subst h1
    exact s_app h2 h3 h5 (pE c.toCtx h4) (pE c.toCtx h6)
  · cases h
theorem sExt (c : CtxS G S C Wx ea k X) {o a : CE} {x : Stmt} (h : chkExt G S o a x = true) : PS X x (tS C X.K Wx ea fr (.ext o a)) := by
  unfold chkExt at h
  split at h
  · simp only [Bool.and_eq_true, decide_eq_true_eq] at h
    obtain ⟨⟨⟨⟨⟨⟨h1, h2⟩, h3⟩, h4⟩, h5⟩, h6⟩, h7⟩ := h
    subst h1
    exact s_ext h2 h3 h5 (pE c.toCtx h4) ((sE G C ea k a S Wx X _ c.toCtx h7).1 true (fun _ => h6))
  · cases h
theorem sAs1 (c : CtxS G S C Wx ea k X) {t : Tg} {a : CE} {tg e : Expr} {p : Pos} (h : chkAs1 G S t a tg e = true) : PS X (.Assign [tg] e p) (tS C X.K Wx ea fr (.asg t a)) := by
  unfold chkAs1 at h
  simp only [Bool.and_eq_true] at h
  obtain ⟨⟨⟨⟨h1, h2⟩, h3⟩, h4⟩, h5⟩ := h
  exact s_asg (noSw_sole c.sc h1) h2 (plain_no c.sc h3) (sT G C ea k t S Wx Wx X tg c.toCtx h4) (pE c.toCtx h5)
theorem sLc (c : CtxS G S C Wx ea k X) {i : Nat} {a : CE} {tg e : Expr} {p : Pos} (h : chkLc G S i a tg e = true) : PS X (.Assign [tg] e p) (tS C X.K Wx ea fr (.asg (.nm i) a)) := by
  unfold chkLc at h
  split at h
  · rw [Bool.and_eq_true, Bool.and_eq_true, Bool.and_eq_true, Bool.and_eq_true, Bool.and_eq_true, Bool.and_eq_true, Bool.not_eq_true'] at h
    obtain ⟨⟨⟨⟨⟨⟨h1, h2⟩, h3⟩, h4⟩, h5⟩, h6⟩, h7⟩ := h
    exact s_asgLc c.toCtx h1 (of_decide_eq_true h2) h3 h4 h5 h6 h7
  · cases h
theorem sSw2 (c : CtxS G S C Wx ea k X) {i j : Nat} {es : CEs} {tg e : Expr} {p : Pos} (h : chkSw2 G S i j es tg e = true) : PS X (.Assign [tg] e p) (tS C X.K Wx ea fr (.asg (.tp (.cons (.nm i) (.cons (.nm j) .nil))) (.tup es))) := by
  unfold chkSw2 at h
  split at h
  · simp only [Bool.and_eq_true, decide_eq_true_eq] at h
    obtain ⟨⟨⟨⟨⟨⟨⟨⟨h1, h2⟩, h3⟩, h4⟩, h5⟩, h6⟩, h7⟩, h8⟩, h9⟩ := h
    exact s_swap2 c.toCtx h1 h2 h3 h4 h5 h6 h7 h8 h9 (sEs G C ea k _ S Wx X _ c.toCtx h9).1
  · cases h
theorem sSw3 (c : CtxS G S C Wx ea k X) {i j l : Nat} {es : CEs} {tg e : Expr} {p : Pos} (h : chkSw3 G S i j l es tg e = true) : PS X (.Assign [tg] e p) (tS C X.K Wx ea fr (.asg (.tp (.cons (.nm i) (.cons (.nm j) (.cons (.nm l) .nil)))) (.tup es))) := by
  unfold chkSw3 at h
  split at h
  · simp only [Bool.and_eq_true, decide_eq_true_eq] at h
    obtain ⟨⟨⟨⟨⟨⟨⟨⟨⟨⟨⟨⟨⟨h1, h2⟩, h3⟩, h4⟩, h5⟩, h6⟩, h7⟩, h8⟩, h9⟩, h10⟩, h11⟩, h12⟩, h13⟩, h14⟩ := h
    exact s_swap3 c.toCtx h1 h2 h3 h4 h5 h6 h7 h8 h9 h10 h11 h12 h13 h14 (sEs G C ea k _ S Wx X _ c.toCtx h14).1
  · cases h
theorem sAsg (c : CtxS G S C Wx ea k X) {t : Tg} {a : CE} {x : Stmt} (h : chkAsg G S t a x = true) : PS X x (tS C X.K Wx ea fr (.asg t a)) := by
  unfold chkAsg at h
  split at h
  · rw [Bool.or_eq_true] at h
    rcases h with h | h
    · exact sAs1 G C ea k c h
    · split at h
      · exact sLc G C ea k c h
      · split at h
        · exact sSw2 G C ea k c h
        · cases h
      · split at h
        · exact sSw3 G C ea k c h
        · cases h
      · cases h
  · cases h
theorem sAug (c : CtxS G S C Wx ea k X) {i : Nat} {o : Op} {a : CE} {x : Stmt} (h : chkAug G S i o a x = true) : PS X x (tS C X.K Wx ea fr (.aug i o a)) := by
  unfold chkAug at h
  split at h
  · simp only [Bool.and_eq_true, decide_eq_true_eq] at h
    obtain ⟨⟨⟨h1, h2⟩, h3⟩, h4⟩ := h
    rw [aug_eq h3]
    exact s_aug c.toCtx h1 h2 (pE c.toCtx h4)
  · cases h
theorem sRet (c : CtxS G S C Wx ea k X) {a : CE} {x : Stmt} (h : chkRet G S fr a x = true) : PS X x (tS C X.K Wx ea fr (.ret a)) := by
  unfold chkRet at h
  split at h
  · simp only [Bool.and_eq_true, Bool.or_eq_true, Bool.not_eq_true'] at h
    refine s_ret ((sE G C ea k a S Wx X _ c.toCtx h.2).1 fr fun z => ?_)
    rcases h.1 with q | q
    · rw [z] at q; cases q
    · exact q
  · cases h
theorem sRetL (c : CtxS G S C Wx ea k X) {a : CE} {x : Stmt} (h : chkRet G S false a x = true) : PS X x (tS C X.K Wx ea fr (.retL a)) := by
  unfold chkRet at h
  split at h
  · rw [Bool.and_eq_true] at h
    exact s_retL (pE c.toCtx h.2)
  · cases h
theorem s_rais (c : CtxS G S C Wx ea k X) {n j : Nat} {m m' x : Str} {p p1 p2 pos : Pos} (h1 : G.excs[n]? = some x) (h2 : glB S.sc x = true) : PS X (.Raise (some (.Call (.Name x p) [.Constant (.str m') j p1] [] p2)) none pos) (tS C X.K Wx ea fr (.rais n m)) := by
  have F := c.exc n x h1
  refine PS.by (ps_raise c.calm c.tk (pmk_own PySem.F.excBase_ValueError F.q F.m F.kp (raises_own F.b F.t) (c.gl h2).1 (c.gl h2).2.1)) fun D σ H h => ?_
  obtain ⟨W, en, s, R, En, h⟩ := h
  simp only [evS] at h
  exact h.2 W H σ (gs0 R En)
theorem sRais (c : CtxS G S C Wx ea k X) {n : Nat} {m : Str} {x : Stmt} (h : chkRais G S n x = true) : PS X x (tS C X.K Wx ea fr (.rais n m)) := by
  unfold chkRais at h
  split at h
  · rw [Bool.and_eq_true] at h
    exact s_rais G C ea k c (of_decide_eq_true h.1) h.2
  · cases h
theorem isPas_of {x : Stmt} (h : isPas x = true) : ∃ p, x = .Pass p := by unfold isPas at h; split at h; exact ⟨_, rfl⟩; cases h
theorem isBrk_of {x : Stmt} (h : isBrk x = true) : ∃ p, x = .Break p := by unfold isBrk at h; split at h; exact ⟨_, rfl⟩; cases h
theorem isCnt_of {x : Stmt} (h : isCnt x = true) : ∃ p, x = .Continue p := by unfold isCnt at h; split at h; exact ⟨_, rfl⟩; cases h
theorem isRet0_of {x : Stmt} (h : isRet0 x = true) : ∃ p, x = .Return none p := by unfold isRet0 at h; split at h; exact ⟨_, rfl⟩; cases h
mutual
theorem sS (c : CtxS G S C Wx ea k X) : ∀ (a : CS) (x : Stmt), chkS G S fr a x = true → PS X x (tS C X.K Wx ea fr a)
  | .nev, x, _ => s_nev
  | .rais n m, x, h => by simp only [chkS] at h; exact sRais G C ea k c h
  | .pas, x, h => by simp only [chkS] at h; obtain ⟨p, rfl⟩ := isPas_of h; exact s_pas
  | .brk, x, h => by simp only [chkS] at h; obtain ⟨p, rfl⟩ := isBrk_of h; exact s_brk
  | .cnt, x, h => by simp only [chkS] at h; obtain ⟨p, rfl⟩ := isCnt_of h; exact s_cnt
  | .ret0, x, h => by simp only [chkS] at h; obtain ⟨p, rfl⟩ := isRet0_of h; exact s_ret0
  | .exp a, x, h => by simp only [chkS] at h; exact sExp G C ea k c h
  | .app o a, x, h => by simp only [chkS] at h; exact sApp G C ea k c h
  | .ext o a, x, h => by simp only [chkS] at h; exact sExt G C ea k c h
  | .asg t a, x, h => by simp only [chkS] at h; exact sAsg G C ea k c h
  | .aug i o a, x, h => by simp only [chkS] at h; exact sAug G C ea k c h
  | .ret a, x, h => by simp only [chkS] at h; exact sRet G C ea k c h
  | .retL a, x, h => by simp only [chkS] at h; exact sRetL G C ea k c h
  | .ife t a b, x, h => by
    cases x with
    | If u p q ps =>
      simp only [chkS, Bool.and_eq_true] at h
      exact s_ife (pT c.toCtx h.1.1.2 h.1.1.1) (sSs c a p h.1.2) (sSs c b q h.2)
    | _ => simp only [chkS] at h; cases h
  | .for_ t it b, x, h => by
    cases x with
    | For tg i body el ps =>
      cases el with
      | nil =>
        simp only [chkS, Bool.and_eq_true, Bool.or_eq_true, Bool.not_eq_true'] at h
        obtain ⟨⟨⟨h1, h2⟩, h3⟩, h4⟩ := h
        refine s_for c.pass c.calm (sI G C ea k it S Wx X _ _ c.toCtx h1 fun w => ?_) (sT G C ea k t S Wx Wx X _ c.toCtx h3) (sSs c b _ h4) (chkI_set h1)
        rcases h2 with q | q
        · rw [w] at q; cases q
        · exact q
      | cons _ _ => simp only [chkS] at h; cases h
    | _ => simp only [chkS] at h; cases h
  | .whl t b, x, h => by
    cases x with
    | While u body el ps =>
      cases el with
      | nil =>
        simp only [chkS, Bool.and_eq_true] at h
        exact s_whl c.pass (pT c.toCtx h.1.2 h.1.1) (sSs c b _ h.2)
      | cons _ _ => simp only [chkS] at h; cases h
    | _ => simp only [chkS] at h; cases h
theorem sSs (c : CtxS G S C Wx ea k X) : ∀ (a : CSs) (l : List Stmt), chkSs G S fr a l = true → PSs X l (tSs C X.K Wx ea fr a)
  | .nil, l, h => by
    simp only [chkSs, List.isEmpty_iff] at h
    subst h
    exact ss_nil
  | .cons a r, l, h => by
    cases l with
    | nil => simp only [chkSs] at h; cases h
    | cons x t =>
      simp only [chkSs, Bool.and_eq_true] at h
      exact ss_cons (sS c a x h.1) (sSs c r t h.2)
end
end
end Pv
end
section
set_option maxRecDepth 100000
set_option maxHeartbeats 4000000
namespace Pv
open PySem PySem.Spec PyProof.Rows L2
/-! ### a def that calls what it got and looks at what that raises -/
/-- whether an error of the class k is one of the class z: the base stands first -/
def isxB (excs : List Str) (k : Nat) (z : Str) : Bool := decide (excs[k]? = some z) || decide (excs[0]? = some z)
def eaK (K : PySem.W.Frag) (excs : List Str) (k : Nat) : Addr := He.ga K (excs.getD k "")
/-- what the module tells of its error classes; zs: all that are named -/
structure ExcsF (K : PySem.W.Frag) (mg : Str → Option Value) (excs zs : List Str) : Prop where
  one : ∀ k x, excs[k]? = some x → ExcF K mg (eaK K excs k) x ∧ ExcC K (eaK K excs k)
  kit : ∀ k x z, excs[k]? = some x → z ∈ zs → mg z = some (.ref (He.ga K z)) ∧ PySem.W.kitOne K (.ref (eaK K excs k)) (.ref (He.ga K z)) = some (isxB excs k z) ∧ PySem.W.exmOne K (.ref (eaK K excs k)) (.ref (He.ga K z)) = some (isxB excs k z)
  isi : mg "isinstance" = none
section
variable (sc : Scope) (excs zs : List Str) (n : Str) (k : Nat)
def glX (sc : Scope) (x : Str) : Bool := decide (sc.names.lookup x = some .globalImplicit) && !isDb x && decide (x ≠ ("__name__" : Str))
def condX : Expr → Option Bool
  | .Call (.Name i _) [.Name y _, .Name z _] [] _ => if decide (i = "isinstance") && glX sc i && decide (y = n) && glX sc z && zs.contains z then some (isxB excs k z) else none
  | .BoolOp .Or [.Call (.Name i _) [.Name y _, .Name z _] [] _, .Call (.Name i' _) [.Name y' _, .Name z' _] [] _] _ =>
    if decide (i = "isinstance") && glX sc i && decide (y = n) && glX sc z && zs.contains z && decide (i' = "isinstance") && decide (y' = n) && glX sc z' && zs.contains z' then some (isxB excs k z || isxB excs k z') else none
  | _ => none
def litC : Const → Option D
  | .none => some .non
  | .bool b => some (.bl b)
  | .int i => some (.int i)
  | .str x => some (.str x)
  | _ => none
def valX : Expr → Option D
  | .Constant c _ _ => litC c
  | .IfExp t a b _ => match condX sc excs zs n k t with
    | some true => valX a
    | some false => valX b
    | none => none
  | _ => none
def suiteX : List Stmt → Option D
  | [.Return (some e) _] => valX sc excs zs n k e
  | .If c [.Return (some e) _] [] _ :: rest => match condX sc excs zs n k c with
    | some true => valX sc excs zs n k e
    | some false => suiteX rest
    | none => none
  | _ => none
end
section
variable {excs zs : List Str} {n : Str} {k i : Nat} {X : Cx} {a : Addr} {oe : Obj} {pn : List (Addr × Obj)} {x : Str}
/-- the slot of e holds the exception -/
def atE (i : Nat) (a : Addr) (σ : L2.St) : Prop := σ[i]? = some (some (V.ref a))
theorem condX_one (F : ExcsF X.K X.mg excs zs) (hk : excs[k]? = some x) (hz : Zc (.ref (eaK X.K excs k)) none oe) (hd : ∃ vs, oe.data = .fields vs) (hN : X.N[i]? = some n) (hv : Vis X.env.scope n) (hdb : isDb n = false) {iz z : Str} {p1 p2 p3 p4 : Pos}
    (h : (decide (iz = "isinstance") && glX X.env.scope iz && decide (n = n) && glX X.env.scope z && zs.contains z) = true) :
    PE (X.suite a ((a, oe) :: pn)) (.Call (.Name iz p1) [.Name n p2, .Name z p3] [] p4) (fun σ H Q => atE i a σ ∧ Q (.bl (isxB excs k z)) H) := by
  simp only [Bool.and_eq_true, decide_eq_true_eq] at h
  obtain ⟨⟨⟨⟨h1, h2⟩, _⟩, h3⟩, h4⟩ := h
  unfold glX at h2 h3
  simp only [Bool.and_eq_true, decide_eq_true_eq, Bool.not_eq_true'] at h2 h3
  subst h1
  obtain ⟨m, kt, _⟩ := F.kit k x z hk (List.contains_iff_mem.mp h4)
  obtain ⟨d1, d2⟩ := isDb_no hdb
  have pv : PE (X.suite a ((a, oe) :: pn)) (.Name n p2) _ := pe_var (i := i) hN hv d1 d2
  have pz : PE (X.suite a ((a, oe) :: pn)) (.Name z p3) (tC (.ref (He.ga X.K z))) := pe_glob h3.1.1 m rfl (isDb_no h3.1.2).1
  refine PE.by (pe_callB (call_isE (F.one k x hk).2 hz hd) h2.1.1 F.isi (by decide +kernel) (pa_cons pv (pa_cons pz pa_nil)) h2.2 (isDb_no h2.1.2).1) fun σ H Q w => ?_
  obtain ⟨w1, w2⟩ := w
  exact ⟨.ref a, w1, .ref (He.ga X.K z), .ref (He.ga X.K z), isxB excs k z, rfl, fun u r => r, kt, w2⟩
theorem condX_ok (F : ExcsF X.K X.mg excs zs) (hk : excs[k]? = some x) (hz : Zc (.ref (eaK X.K excs k)) none oe) (hd : ∃ vs, oe.data = .fields vs) (hN : X.N[i]? = some n) (hv : Vis X.env.scope n) (hdb : isDb n = false) :
    ∀ (e : Expr) (b : Bool), condX X.env.scope excs zs n k e = some b → PT (X.suite a ((a, oe) :: pn)) e (fun σ H Q => atE i a σ ∧ Q b H) := by
  intro e b h
  have pt : ∀ {iz z : Str} {p1 p2 p3 p4 : Pos}, (decide (iz = "isinstance") && glX X.env.scope iz && decide (n = n) && glX X.env.scope z && zs.contains z) = true → PT (X.suite a ((a, oe) :: pn)) (.Call (.Name iz p1) [.Name n p2, .Name z p3] [] p4) (fun σ H Q => atE i a σ ∧ Q (isxB excs k z) H) := fun hh =>
    PT.by (pt_val (condX_one F hk hz hd hN hv hdb hh)) fun σ H Q w => ⟨w.1, _, rfl, w.2⟩
  unfold condX at h
  split at h
  · split at h
    · rename_i hc
      cases h
      have hy := hc
      simp only [Bool.and_eq_true, decide_eq_true_eq] at hy
      obtain ⟨⟨⟨_, hy⟩, _⟩, _⟩ := hy
      subst hy
      exact pt hc
    · cases h
  · split at h
    · rename_i hc
      cases h
      simp only [Bool.and_eq_true, decide_eq_true_eq] at hc
      obtain ⟨⟨⟨⟨⟨⟨⟨⟨c1, c2⟩, c3⟩, c4⟩, c5⟩, c6⟩, c7⟩, c8⟩, c9⟩ := hc
      subst c1 c6 c3 c7
      refine PT.by (PW.pt (pw_or (pt (by simp only [c2, c4, c5, decide_true, Bool.and_self])) (pw_or1 (pt (by simp only [c2, c8, c9, decide_true, Bool.and_self]))))) fun σ H Q w => ⟨w.1, ?_⟩
      have w2 := w.2
      show if _ then _ else _
      split
      · rename_i q; rw [q] at w2; exact w2
      · rename_i q
        rw [Bool.not_eq_true] at q
        rw [q] at w2
        exact ⟨w.1, w2⟩
    · cases h
  · cases h
theorem pss_no {X : Cx} {l : List Stmt} : PSs X l (fun _ _ _ => False) := ⟨fun _ _ _ _ _ _ z => False.elim z⟩
theorem pe_no {X : Cx} {e : Expr} : PE X e (fun _ _ _ => False) := ⟨fun _ _ _ _ _ _ z => False.elim z⟩
theorem litC_pe {X : Cx} {c : Const} {d : D} (h : litC c = some d) {j : Nat} {p : Pos} : PE X (.Constant c j p) (tC (litV d)) := by
  unfold litC at h
  split at h
  · cases h; exact pe_non
  · cases h; exact pe_bl
  · cases h; exact pe_int
  · cases h; exact pe_str
  · cases h
theorem valX_ok (F : ExcsF X.K X.mg excs zs) (hk : excs[k]? = some x) (hz : Zc (.ref (eaK X.K excs k)) none oe) (hd : ∃ vs, oe.data = .fields vs) (hN : X.N[i]? = some n) (hv : Vis X.env.scope n) (hdb : isDb n = false) :
    ∀ (e : Expr) (d : D), valX X.env.scope excs zs n k e = some d → PE (X.suite a ((a, oe) :: pn)) e (fun σ H Q => atE i a σ ∧ Q (litV d) H)
  | .Constant c j p, d, h => PE.by (litC_pe (by simpa [valX] using h)) fun σ H Q w => w.2
  | .IfExp t u v p, d, h => by
    simp only [valX] at h
    split at h
    · rename_i hc
      have U := valX_ok F hk hz hd hN hv hdb u d h
      refine PE.by (pe_ifExp (tb := fun _ _ _ => False) (condX_ok F hk hz hd hN hv hdb t true hc) U ⟨fun _ _ _ _ _ _ z => False.elim z⟩) fun σ H Q w => ⟨w.1, by simp only [if_true]; exact w⟩
    · rename_i hc
      have V := valX_ok F hk hz hd hN hv hdb v d h
      refine PE.by (pe_ifExp (ta := fun _ _ _ => False) (condX_ok F hk hz hd hN hv hdb t false hc) ⟨fun _ _ _ _ _ _ z => False.elim z⟩ V) fun σ H Q w => ⟨w.1, by simp only [Bool.false_eq_true, if_false]; exact w⟩
    · cases h
  | .BoolOp _ _ _, d, h | .NamedExpr _ _ _, d, h | .BinOp _ _ _ _, d, h | .UnaryOp _ _ _, d, h | .Lambda _ _ _ _, d, h => by simp [valX] at h
  | .Name _ _, d, h | .Call _ _ _ _, d, h | .Attribute _ _ _, d, h | .Subscript _ _ _, d, h | .Starred _ _, d, h => by simp [valX] at h
  | .List _ _, d, h | .Tuple _ _ _, d, h | .Compare _ _ _ _, d, h => by simp [valX] at h
  | .Dict _ _ _, d, h | .Set _ _ _, d, h | .ListComp _ _ _ _, d, h | .SetComp _ _ _ _, d, h | .DictComp _ _ _ _ _, d, h | .GeneratorExp _ _ _ _, d, h => by simp [valX] at h
  | .Await _ _, d, h | .Yield _ _, d, h | .YieldFrom _ _, d, h | .FormattedValue _ _ _ _, d, h | .JoinedStr _ _, d, h | .Slice _ _ _ _, d, h => by simp [valX] at h
theorem suiteX_ok (F : ExcsF X.K X.mg excs zs) (hk : excs[k]? = some x) (hz : Zc (.ref (eaK X.K excs k)) none oe) (hd : ∃ vs, oe.data = .fields vs) (hN : X.N[i]? = some n) (hv : Vis X.env.scope n) (hdb : isDb n = false) :
    ∀ (l : List Stmt) (d : D), suiteX X.env.scope excs zs n k l = some d → PSs (X.suite a ((a, oe) :: pn)) l (fun D σ H => atE i a σ ∧ D.rt (litV d) H) := by
  intro l
  fun_induction suiteX X.env.scope excs zs n k l with
  | case1 e p =>
    intro d h
    exact PSs.by (pss_one (ps_ret (valX_ok F hk hz hd hN hv hdb e d h))) fun D σ H w => w
  | case2 c e p1 p2 rest hc =>
    intro d h
    refine PSs.by (pss_cons (ps_if (condX_ok F hk hz hd hN hv hdb c true hc) (pss_one (ps_ret (valX_ok F hk hz hd hN hv hdb e d h))) pss_no) pss_no) fun D σ H w => ⟨w.1, ?_⟩
    simp only [if_true]
    exact w
  | case3 c e p1 p2 rest hc ih =>
    intro d h
    refine PSs.by (pss_cons (ps_if (condX_ok F hk hz hd hN hv hdb c false hc) pss_no pss_nil) (ih d h)) fun D σ H w => ⟨w.1, ?_⟩
    simp only [Bool.false_eq_true, if_false]
    exact w
  | case4 => intro d h; cases h
  | case5 => intro d h; cases h
end
/-- a literal that is handed back -/
theorem lam_as {X : Cx} {excs zs Ng : List Str} {x a e n q : Str} {sg : Scope} {g : Addr} {cdg : Value} {j i : Nat} {d : D} {tb : List (Nat × D)} {cc : Const} {b₀ : Stmt} {suite : List Stmt} {p1 p2 p3 p4 p5 p6 p7 p8 : Pos}
    (F : ExcsF X.K X.mg excs zs) (hge : glX sg e = true) (hze : e ∈ zs) (h0 : ∀ f : Addr, (L2.start Ng [V.ref f])[0]? = some (some (V.ref f))) (hN : Ng.Nodup) (hi : Ng[i]? = some n) (hln : sg.names.lookup n = some .local) (hdn : isDb n = false) (hc : litC cc = some d)
    (hk0 : excs ≠ [])
    (htb : ∀ k r, tb.lookup k = some r → ∃ y r', excs[k]? = some y ∧ isxB excs k e = true ∧ suiteX sg excs zs n k (b₀ :: suite) = some r' ∧ litV r' = litV r) :
    LamX.GivesTo X Ng x sg g cdg [.Try [.Expr (.Call (.Name a p1) [] [] p2) p3] [.ExceptHandler (some (.Name e p4)) (some n) (b₀ :: suite) p5] [] [] p6, .Return (some (.Constant cc j p7)) p8] a q (TTl (eaK X.K excs) d tb) := by
  intro f c' s H Q tl act hco h
  unfold glX at hge
  simp only [Bool.and_eq_true, decide_eq_true_eq, Bool.not_eq_true'] at hge
  have hgl : Gl (cxOf C8.CX0 X.prog X.w X.K X.mg X.base Ng x sg g cdg X.A X.stack s H C8.E0).nox e := hge.1.1
  obtain ⟨y0, hy0⟩ : ∃ y0, excs[0]? = some y0 := by
    cases excs with
    | nil => exact absurd rfl hk0
    | cons y r => exact ⟨y, rfl⟩
  have hme := (F.kit 0 y0 e hy0 hze).1
  refine ⟨_, pss_cons (ps_try_as (X := (cxOf C8.CX0 X.prog X.w X.K X.mg X.base Ng x sg g cdg X.A X.stack s H C8.E0).nox) (c := .ref (He.ga X.K e)) (i := i) (n := n)
      (tb := fun W D σ H => ∃ Ech : XK, (∀ cls d σ' H', Ech cls d H' → W cls d σ' H') ∧ σ[0]? = some (some (.ref f)) ∧ H c' = some (LamX.CodeO c' q) ∧ tl Ech H fun _ H1 => D.nx σ H1)
      (ts := fun a' cls dd D σ H => ∃ (k : Nat) (y : Str) (r : Pv.D), excs[k]? = some y ∧ cls = .ref (eaK X.K excs k) ∧ dd = none ∧ suiteX sg excs zs n k (b₀ :: suite) = some r ∧ (i < σ.length → atE i a' σ) ∧ D.rt (litV r) H)
      rfl rfl hN hi hln ⟨hgl, (isDb_no hge.1.2).1, .inl hme⟩ LamX.takes0 (fun W pn xe tk _ => ?_) (fun a' oe cls dd pn hz hf => ?_)) (pss_one (ps_ret (litC_pe hc))), ?_⟩
  · refine ⟨fun pins s' σ H' D I h' => ?_⟩
    obtain ⟨Ech, hW, h1, h2, h3⟩ := h'
    have hp := pss_one (ps_expr (pos := p3) (act W pn xe Ech p1 p2 tk hW))
    exact hp.run pins s' σ H' D I ⟨h1, h2, h3⟩
  · refine ⟨fun pins s' σ H' D I h' => ?_⟩
    obtain ⟨k, y, r, k1, k2, k3, k4, k5, k6⟩ := h'
    subst k2 k3
    have hl : i < σ.length := by
      have q1 : σ.length = Ng.length := I.len
      rw [q1]
      exact (List.getElem?_eq_some_iff.mp hi).1
    exact (suiteX_ok (X := (cxOf C8.CX0 X.prog X.w X.K X.mg X.base Ng x sg g cdg X.A X.stack s H C8.E0).nox) F k1 hz hf hi (.inl hln) hdn _ r k4).run pins s' σ H' D I ⟨k5 hl, k6⟩
  · refine ⟨_, fun cls dd σ' H' w => ?_, h0 f, hco, h⟩
    obtain ⟨k, r, rfl, rfl, e1, e2⟩ := w
    obtain ⟨y, r', f1, f2, f3, f4⟩ := htb k r e1
    refine ⟨true, by show PySem.W.exmOne X.K _ _ = _; rw [(F.kit k y e f1 hze).2.2, f2], fun _ a' _ => ⟨k, y, r', f1, rfl, rfl, f3, fun hl => ?_, by rw [f4]; exact e2⟩, fun z => nomatch z⟩
    unfold atE
    rw [List.getElem?_set_self (by simpa using hl)]
theorem lam_only {X : Cx} {excs zs Ng : List Str} {x a e q : Str} {sg : Scope} {g : Addr} {cdg : Value} {j j2 : Nat} {d r0 : D} {tb : List (Nat × D)} {cc c2 : Const} {p1 p2 p3 p4 p5 p6 p7 p8 p9 p10 : Pos}
    (F : ExcsF X.K X.mg excs zs) (hge : glX sg e = true) (hze : e ∈ zs) (h0 : ∀ f : Addr, (L2.start Ng [V.ref f])[0]? = some (some (V.ref f))) (hc : litC cc = some d) (hc2 : litC c2 = some r0) (hk0 : excs ≠ [])
    (htb : ∀ k r, tb.lookup k = some r → ∃ y, excs[k]? = some y ∧ isxB excs k e = true ∧ litV r0 = litV r) :
    LamX.GivesTo X Ng x sg g cdg [.Try [.Expr (.Call (.Name a p1) [] [] p2) p3] [.ExceptHandler (some (.Name e p4)) none [.Return (some (.Constant c2 j2 p9)) p10] p5] [] [] p6, .Return (some (.Constant cc j p7)) p8] a q (TTl (eaK X.K excs) d tb) := by
  intro f c' s H Q tl act hco h
  unfold glX at hge
  simp only [Bool.and_eq_true, decide_eq_true_eq, Bool.not_eq_true'] at hge
  have hgl : Gl (cxOf C8.CX0 X.prog X.w X.K X.mg X.base Ng x sg g cdg X.A X.stack s H C8.E0).nox e := hge.1.1
  obtain ⟨y0, hy0⟩ : ∃ y0, excs[0]? = some y0 := by
    cases excs with
    | nil => exact absurd rfl hk0
    | cons y r => exact ⟨y, rfl⟩
  have hme := (F.kit 0 y0 e hy0 hze).1
  refine ⟨_, pss_cons (ps_try_only (X := (cxOf C8.CX0 X.prog X.w X.K X.mg X.base Ng x sg g cdg X.A X.stack s H C8.E0).nox) (c := .ref (He.ga X.K e))
      (tb := fun W D σ H => ∃ Ech : XK, (∀ cls d σ' H', Ech cls d H' → W cls d σ' H') ∧ σ[0]? = some (some (.ref f)) ∧ H c' = some (LamX.CodeO c' q) ∧ tl Ech H fun _ H1 => D.nx σ H1)
      rfl rfl ⟨hgl, (isDb_no hge.1.2).1, .inl hme⟩ LamX.takes0 (fun W pn xe tk _ => ?_) (fun a' oe cls dd pn hz hf => pss_one (ps_ret (litC_pe hc2)))) (pss_one (ps_ret (litC_pe hc))), ?_⟩
  · refine ⟨fun pins s' σ H' D I h' => ?_⟩
    obtain ⟨Ech, hW, h1, h2, h3⟩ := h'
    have hp := pss_one (ps_expr (pos := p3) (act W pn xe Ech p1 p2 tk hW))
    exact hp.run pins s' σ H' D I ⟨h1, h2, h3⟩
  · refine ⟨_, fun cls dd σ' H' w => ?_, h0 f, hco, h⟩
    obtain ⟨k, r, rfl, rfl, e1, e2⟩ := w
    obtain ⟨y, f1, f2, f4⟩ := htb k r e1
    exact ⟨true, by show PySem.W.exmOne X.K _ _ = _; rw [(F.kit k y e f1 hze).2.2, f2], fun _ a' _ => by show Q _ _; rw [f4]; exact e2, fun z => nomatch z⟩
end Pv
end
section
set_option maxRecDepth 100000
set_option maxHeartbeats 4000000
namespace Pv
open PySem PySem.Spec PyProof.Rows L2
/-! ### leaving a def -/
section
variable {K : PySem.W.Frag} {H H' : Hp} {s : Sto} {ρ l av av' : List Addr} {p : Addr}
mutual
theorem fz_rep2 {g : Nat → D} {b : Nat} (tr : ∀ a xs, LstAt K ⟨ρ ++ l, av⟩ H a xs → LstAt K ⟨ρ, av'⟩ H a xs) (hg : ∀ m a, ρ.length ≤ m → m < b → (ρ ++ l)[m]? = some a → Rep K ⟨ρ, av'⟩ H (g m) (.ref a)) :
    ∀ (d : D) {v : V}, below b d = true → Rep K ⟨ρ ++ l, av⟩ H d v → Rep K ⟨ρ, av'⟩ H (fzD ρ.length g d) v
  | .non, _, _, h => by simpa [Rep, fzD] using h
  | .bl _, _, _, h => by simpa [Rep, fzD] using h
  | .int _, _, _, h => by simpa [Rep, fzD] using h
  | .str _, _, _, h => by simpa [Rep, fzD] using h
  | .tup ds, _, q, h => by
    simp only [below] at q
    simp only [Rep, fzD] at h ⊢
    obtain ⟨a, vs, e, t, r⟩ := h
    exact ⟨a, vs, e, t, fz_reps2 tr hg ds q r⟩
  | .lst ds, _, q, h => by
    simp only [below] at q
    simp only [Rep, fzD] at h ⊢
    obtain ⟨a, vs, e, t, r⟩ := h
    exact ⟨a, vs, e, tr _ _ t, fz_reps2 tr hg ds q r⟩
  | .loc m, _, q, h => by
    simp only [below, decide_eq_true_eq] at q
    simp only [Rep] at h
    obtain ⟨a, e, t⟩ := h
    subst e
    simp only [fzD]
    by_cases hm : m < ρ.length
    · rw [if_pos hm]
      rw [List.getElem?_append_left hm] at t
      simp only [Rep]
      exact ⟨a, rfl, t⟩
    · rw [if_neg hm]
      exact hg m a (by omega) q t
  | .dct _ _, _, _, h => by simp only [Rep] at h
  | .set _, _, _, h => by simp only [Rep] at h
theorem fz_reps2 {g : Nat → D} {b : Nat} (tr : ∀ a xs, LstAt K ⟨ρ ++ l, av⟩ H a xs → LstAt K ⟨ρ, av'⟩ H a xs) (hg : ∀ m a, ρ.length ≤ m → m < b → (ρ ++ l)[m]? = some a → Rep K ⟨ρ, av'⟩ H (g m) (.ref a)) :
    ∀ (ds : List D) {vs : List V}, belows b ds = true → Reps K ⟨ρ ++ l, av⟩ H ds vs → Reps K ⟨ρ, av'⟩ H (fzDs ρ.length g ds) vs
  | [], _, _, h => by simpa [Reps, fzDs] using h
  | d :: ds, _, q, h => by
    simp only [belows, Bool.and_eq_true] at q
    simp only [Reps, fzDs] at h ⊢
    obtain ⟨v, r, e, h1, h2⟩ := h
    exact ⟨v, r, e, fz_rep2 tr hg d q.1 h1, fz_reps2 tr hg ds q.2 h2⟩
end
theorem LstAt.cutTo {a : Addr} {xs : List V} (hp : p ∈ ρ ++ l) (h : LstAt K ⟨ρ ++ l, av⟩ H a xs) : LstAt K ⟨ρ, p :: av⟩ H a xs := by
  rcases h with ⟨h, n, m⟩ | h | h
  · refine .inl ⟨h, fun z => n (List.mem_append_left _ z), fun z => ?_⟩
    rcases List.mem_cons.mp z with z | z
    · subst z; exact n hp
    · exact m z
  · exact .inr (.inl h)
  · exact .inr (.inr h)
theorem fzL_rep2 {m0 : Nat} (R : RelSt K ⟨ρ ++ l, av⟩ s H) (h0 : (ρ ++ l)[m0]? = some p) : ∀ (k m : Nat) (a : Addr), ρ.length ≤ m → m < k → m < m0 → (ρ ++ l)[m]? = some a → Rep K ⟨ρ, p :: av⟩ H (fzL s ρ.length k m) (.ref a)
  | 0, _, _, _, h, _, _ => by omega
  | k + 1, m, a, h1, h2, h4, h3 => by
    obtain ⟨ds, vs, e1, e2, e3, e4⟩ := R.cell m a h3
    have hg : s.getD m .non = .lst ds := by rw [List.getD_eq_getElem?_getD, e1]; rfl
    unfold fzL
    rw [hg]
    simp only [fzD, Rep]
    refine ⟨a, vs, rfl, .inl ⟨e2, nodup_app R.nd h1 h3, fun q => ?_⟩, ?_⟩
    · rcases List.mem_cons.mp q with q | q
      · subst q
        have := nodup_at R.nd h3 h0
        omega
      · exact (R.avd a q).2 (List.mem_of_getElem? h3)
    · exact fz_reps2 (b := m) (fun _ _ => LstAt.cutTo (List.mem_of_getElem? h0)) (fun m' a' q1 q2 q3 => fzL_rep2 R h0 k m' a' q1 (by omega) (by omega) q3) ds e4 e3
/-- a cell of its own, handed out -/
theorem Own.out {m : Nat} (R : RelSt K ⟨ρ ++ l, av⟩ s H) (h0 : (ρ ++ l)[m]? = some p) (hm : ρ.length ≤ m) : ∃ ds vs, fz ρ.length s (.loc m) = .lst ds ∧ Own K ⟨ρ, av⟩ (s.take ρ.length) H p ds vs := by
  obtain ⟨ds, vs, e1, e2, e3, e4⟩ := R.cell m p h0
  have hs : m < s.length := (List.getElem?_eq_some_iff.mp e1).1
  have hg : s.getD m .non = .lst ds := by rw [List.getD_eq_getElem?_getD, e1]; rfl
  obtain ⟨k, hk⟩ : ∃ k, s.length = k + 1 := ⟨s.length - 1, by omega⟩
  have kp : Keeps K ⟨ρ ++ l, av⟩ H ⟨ρ, p :: av⟩ H ρ.length := ⟨fun _ _ q => q, fun _ _ q => q.cutTo (List.mem_of_getElem? h0), fun m b hm q => by
    have q : (ρ ++ l)[m]? = some b := q
    rw [List.getElem?_append_left hm] at q
    exact q⟩
  have hl := R.len
  simp only [List.length_append] at hl
  refine ⟨fzDs ρ.length (fzL s ρ.length k) ds, vs, ?_, e2, fun z => (R.avd p z).2 (List.mem_of_getElem? h0), ⟨?_, (List.nodup_append.mp R.nd).1, fun a q => ?_, fun n a h => ?_, R.tabs⟩, ?_⟩
  · unfold fz
    simp only [fzD]
    rw [if_neg (by omega), hk]
    simp only [fzL, hg, fzD]
  · show ρ.length = (s.take ρ.length).length
    rw [List.length_take]; omega
  · rcases List.mem_cons.mp q with q | q
    · subst q
      exact ⟨Ob.of_lst e2, nodup_app R.nd hm h0⟩
    · exact ⟨(R.avd a q).1, fun z => (R.avd a q).2 (List.mem_append_left _ z)⟩
  · have h : ρ[n]? = some a := h
    have hn : n < ρ.length := (List.getElem?_eq_some_iff.mp h).1
    have h' : (ρ ++ l)[n]? = some a := by rw [List.getElem?_append_left hn]; exact h
    obtain ⟨ds', vs', c1, c2, c3, c4⟩ := R.cell n a h'
    exact ⟨ds', vs', by rw [List.getElem?_take_of_lt hn]; exact c1, c2, Reps.by kp ds' (belows_mono (Nat.le_of_lt hn) ds' c4) c3, c4⟩
  · exact fz_reps2 (b := m) (fun _ _ => LstAt.cutTo (List.mem_of_getElem? h0)) (fun m' a' q1 q2 q3 => fzL_rep2 R h0 k m' a' q1 (by omega) (by omega) q3) ds e4 e3
theorem fzD_lst {n : Nat} {g : Nat → D} {d : D} {ds : List D} (h : fzD n g d = .lst ds) : (∃ es, d = .lst es ∧ ds = fzDs n g es) ∨ ∃ m, d = .loc m ∧ n ≤ m := by
  cases d with
  | lst es => simp only [fzD, D.lst.injEq] at h; exact .inl ⟨es, rfl, h.symm⟩
  | loc m =>
    simp only [fzD] at h
    split at h
    · cases h
    · exact .inr ⟨m, rfl, by omega⟩
  | _ => simp [fzD] at h
theorem Got.left {fr : Bool} {W W' : Wd} {s' : Sto} {d : D} {v : V} (g : Got K fr W H W' s' H' d v) (hl : fr = true → lowLoc W.rho.length d = false) :
    Got K fr W H W (s'.take W.rho.length) H' (fz W.rho.length s' d) v := by
  obtain ⟨ρ, av⟩ := W
  obtain ⟨ρ', av2⟩ := W'
  obtain ⟨l, e, hn⟩ := g.pres.ext
  have ea := g.pres.av
  simp only at e ea
  subst e ea
  refine ⟨g.pres.left, g.st.left, g.rep.left g.st, fun hf ds q => ?_⟩
  unfold fz at q
  rcases fzD_lst q with ⟨es, e1, e2⟩ | ⟨m, e1, hm⟩
  · subst e1 e2
    obtain ⟨p, vs, ev, np, o⟩ := g.own hf es rfl
    have R : RelSt K ⟨ρ ++ l, p :: av2⟩ s' H' := o.rel
    have r : Reps K ⟨ρ ++ l, p :: av2⟩ H' es vs := o.reps
    exact ⟨p, vs, ev, np, o.at_, o.nav, R.left, Reps.left R r⟩
  · subst e1
    have r := g.rep
    simp only [Rep] at r
    obtain ⟨p, ev, r⟩ := r
    obtain ⟨ds', vs, e3, o⟩ := Own.out g.st r hm
    unfold fz at e3
    rw [q] at e3
    cases e3
    refine ⟨p, vs, ev, ?_, o⟩
    simp only at hm
    rw [List.getElem?_append_right hm] at r
    exact hn p (List.mem_of_getElem? r)
end
/-! ### a def of the text -/
structure FI where
  i : Nat
  ps : List Str
  N : List Str
  fd : FD
  dfl : List D
/-- a def that gets a lambda -/
structure LI where
  i : Nat
  x : Str
  a : Str
  N : List Str
  d : D
  tb : List (Nat × D)
def okN : Scope → List Str → List Str → Bool := fun sc N ps => (match sc.kind with
  | .function => true
  | _ => false) && !sc.isCoroutine && !sc.isGenerator && decide N.Nodup && decide (N.take ps.length = ps) && (ps.all fun x => locB sc x) && (sc.names.all fun y => match y.2 with
  | .free => false
  | _ => true)
def dvD : He.Dv → D → Bool
  | .non, .non => true
  | .bl a, .bl b => a == b
  | .int i, .int j => decide (i = j)
  | .str x, .str y => decide (x = y)
  | _, _ => false
def dvDs : List He.Dv → List D → Bool
  | [], [] => true
  | v :: r, d :: t => dvD v d && dvDs r t
  | _, _ => false
theorem dvD_v {K : PySem.W.Frag} {v : He.Dv} {d : D} (h : dvD v d = true) : v.v K = litV d ∧ isLit d = true := by
  unfold dvD at h
  split at h
  · exact ⟨rfl, rfl⟩
  · cases eq_of_beq h; exact ⟨rfl, rfl⟩
  · cases of_decide_eq_true h; exact ⟨rfl, rfl⟩
  · cases of_decide_eq_true h; exact ⟨rfl, rfl⟩
  · cases h
theorem dvDs_v {K : PySem.W.Frag} : ∀ {vs : List He.Dv} {ds : List D}, dvDs vs ds = true → vs.map (He.Dv.v K) = ds.map litV ∧ ds.all isLit = true
  | [], [], _ => ⟨rfl, rfl⟩
  | v :: r, d :: t, h => by
    simp only [dvDs, Bool.and_eq_true] at h
    obtain ⟨e1, e2⟩ := dvD_v (K := K) h.1
    obtain ⟨e3, e4⟩ := dvDs_v (K := K) h.2
    simp only [List.map_cons, e1, e3, List.all_cons, e2, e4]
    exact ⟨trivial, rfl⟩
  | [], _ :: _, h => by simp [dvDs] at h
  | _ :: _, [], h => by simp [dvDs] at h
def okF (G : GC) (fn : List He.DefD) (q : FI) (x : Str) : Bool :=
  match fn[q.i]? with
  | some d => decide (d.at_ = (x, none)) && dvDs d.dfl q.dfl && d.kwd.isEmpty && okN d.scope q.N q.ps && decide (q.fd.np = q.ps.length) && decide (q.fd.nl = q.N.length) && decide (d.qual = x) && decide (q.dfl.length ≤ q.ps.length) && (!G.tabs.contains x || tabDefs.contains x) && chkSs G ⟨q.N, d.scope, none, G.tabs.contains x⟩ q.fd.fr q.fd.body d.body
  | none => false
/-- its arguments, one for each parameter -/
def BindA (params : Arguments) (ps : List Str) : Prop := ∀ (name qual : Str) (body : List Stmt) (scope : Scope) (kV doc pm : Value) (an : Option Addr) (cdv ct : Value) (us : List Value), us.length = ps.length →
  bindArgs (PySem.W.fnOf name qual params body scope .none kV doc pm an cdv ct) ⟨us, []⟩ = pure (ps.zip us)
/-- of m defaults the first j are given -/
def BindJ (params : Arguments) (ps : List Str) (m j : Nat) : Prop := ∀ (name qual : Str) (body : List Stmt) (scope : Scope) (T : Addr) (kV doc pm : Value) (an : Option Addr) (cdv ct : Value) (us its : List Value), us.length + (m - j) = ps.length → its.length = m →
  ∃ k, bindArgs (PySem.W.fnOf name qual params body scope (.ref T) kV doc pm an cdv ct) ⟨us, []⟩ = seqItems? (.ref T) >>= k ∧ k (some its.toArray) = pure (ps.zip (us ++ its.drop j))
def BindQ (params : Arguments) (ps : List Str) (m : Nat) : Prop := (m = 0 → BindA params ps) ∧ (0 < m → ∀ j, j ≤ m → BindJ params ps m j)
theorem okN_of {sc : Scope} {N ps : List Str} (h : okN sc N ps = true) : FnScope N ps sc := by
  unfold okN at h
  simp only [Bool.and_eq_true, Bool.not_eq_true', decide_eq_true_eq, List.all_eq_true] at h
  obtain ⟨⟨⟨⟨⟨⟨h1, h2⟩, h3⟩, h4⟩, h5⟩, h6⟩, h7⟩ := h
  refine ⟨?_, h2, h3, h4, h5, fun x hx => loc_of (h6 x hx), fun y hy e => ?_⟩
  · split at h1
    · assumption
    · cases h1
  · have := h7 y hy
    rw [e] at this
    cases this
mutual
theorem same_eq2 : ∀ a b : D, same a b = true → a = b
  | .non, .non, _ => rfl
  | .bl _, .bl _, h => by simp only [same] at h; rw [eq_of_beq h]
  | .int _, .int _, h => by simp only [same, decide_eq_true_eq] at h; rw [h]
  | .str _, .str _, h => by simp only [same, decide_eq_true_eq] at h; rw [h]
  | .loc _, .loc _, h => by simp only [same, decide_eq_true_eq] at h; rw [h]
  | .tup xs, .tup ys, h => by simp only [same] at h; rw [sames_eq2 xs ys h]
  | .lst xs, .lst ys, h => by simp only [same] at h; rw [sames_eq2 xs ys h]
  | .set xs, .set ys, h => by simp only [same] at h; rw [sames_eq2 xs ys h]
  | .dct ks vs, .dct ks' vs', h => by simp only [same, Bool.and_eq_true] at h; rw [sames_eq2 ks ks' h.1, sames_eq2 vs vs' h.2]
  | .non, .bl _, h | .non, .int _, h | .non, .str _, h | .non, .loc _, h | .non, .tup _, h | .non, .lst _, h | .non, .set _, h | .non, .dct _ _, h => by simp [same] at h
  | .bl _, .non, h | .bl _, .int _, h | .bl _, .str _, h | .bl _, .loc _, h | .bl _, .tup _, h | .bl _, .lst _, h | .bl _, .set _, h | .bl _, .dct _ _, h => by simp [same] at h
  | .int _, .non, h | .int _, .bl _, h | .int _, .str _, h | .int _, .loc _, h | .int _, .tup _, h | .int _, .lst _, h | .int _, .set _, h | .int _, .dct _ _, h => by simp [same] at h
  | .str _, .non, h | .str _, .bl _, h | .str _, .int _, h | .str _, .loc _, h | .str _, .tup _, h | .str _, .lst _, h | .str _, .set _, h | .str _, .dct _ _, h => by simp [same] at h
  | .loc _, .non, h | .loc _, .bl _, h | .loc _, .int _, h | .loc _, .str _, h | .loc _, .tup _, h | .loc _, .lst _, h | .loc _, .set _, h | .loc _, .dct _ _, h => by simp [same] at h
  | .tup _, .non, h | .tup _, .bl _, h | .tup _, .int _, h | .tup _, .str _, h | .tup _, .loc _, h | .tup _, .lst _, h | .tup _, .set _, h | .tup _, .dct _ _, h => by simp [same] at h
  | .lst _, .non, h | .lst _, .bl _, h | .lst _, .int _, h | .lst _, .str _, h | .lst _, .loc _, h | .lst _, .tup _, h | .lst _, .set _, h | .lst _, .dct _ _, h => by simp [same] at h
  | .set _, .non, h | .set _, .bl _, h | .set _, .int _, h | .set _, .str _, h | .set _, .loc _, h | .set _, .tup _, h | .set _, .lst _, h | .set _, .dct _ _, h => by simp [same] at h
  | .dct _ _, .non, h | .dct _ _, .bl _, h | .dct _ _, .int _, h | .dct _ _, .str _, h | .dct _ _, .loc _, h | .dct _ _, .tup _, h | .dct _ _, .lst _, h | .dct _ _, .set _, h => by simp [same] at h
theorem sames_eq2 : ∀ xs ys : List D, sames xs ys = true → xs = ys
  | [], [], _ => rfl
  | x :: xs, y :: ys, h => by simp only [sames, Bool.and_eq_true] at h; rw [same_eq2 x y h.1, sames_eq2 xs ys h.2]
  | [], _ :: _, h => by simp [sames] at h
  | _ :: _, [], h => by simp [sames] at h
end
section
variable {P : Program} {w : World} {K : PySem.W.Frag} {mg : Str → Option Value} {base : Heap}
/-- what is known of the module: constants, built-in names, error classes, tables -/
structure ModF (G : GC) (K : PySem.W.Frag) (mg : Str → Option Value) (ea : Nat → Addr) : Prop where
  cons : ∀ x d, consB G x d = true → ∃ u v, mg x = some u ∧ RelV v u ∧ ∀ W H, Rep K W H d v
  free : ∀ x, G.free.contains x = true → mg x = none
  mods : ∀ b, G.mods.contains (biName b) = true → mg (biName b) = some (biVal b)
  exc : ∀ k x, G.excs[k]? = some x → ExcF K mg (ea k) x
  lams : ∀ x d tb, lamF G.lams x d tb = true → LamD K mg ea x d tb ∧ isLit d = true ∧ ∀ k r, tb.lookup k = some r → isLit r = true
  apart : (tabDefs.map fun x => (He.cT K (x, none)).2).Nodup
def clN (fs : List FD) (n : Nat) : Cl := ⟨callN fs n⟩
def DflOk (G : GC) (K : PySem.W.Frag) (fd : FuncData) (ps : List Str) (f : Nat) : Prop :=
  ∀ ds : List D, sames ds ((G.dfl.getD f []).drop ((G.dfl.getD f []).length - ds.length)) = true → ds.length ≤ ps.length → ∃ us, Binds K fd ps us ∧ Vals (ds.map litV) us ∧ ds.all isLit = true
/-- every def keeps its promise, to the depth n -/
def AllOk (G : GC) (fs : List FD) (P : Program) (w : World) (K : PySem.W.Frag) (mg : Str → Option Value) (base : Heap) (ea : Nat → Addr) (n : Nat) : Prop :=
  ∀ f x, G.fns[f]? = some x → ∃ fa fd ps, mg x = some (.ref fa) ∧ PySem.W.keepIn K (.ref fa) = true ∧ Binds K fd ps [] ∧
    FnOk P w K mg base (L2.CX P w) (3 * n) fa fd ps (spD (clN fs n) K ea (frOf G f) f ps.length) ∧ (∀ ds s, ds.length ≠ ps.length → (clN fs n).fn f ds s = .bad) ∧ DflOk G K fd ps f
theorem FunD.uniq {x x' q q' : Str} {p p' : Arguments} {b b' : List Stmt} {s s' : Scope} {d d' : List V} {e e' : List (Str × V)} {f : Addr} {fd fd' : FuncData} (F : FunD K x q p b s d e f fd) (F' : FunD K x' q' p' b' s' d' e' f fd') : fd = fd' := by
  obtain ⟨oc, od, dV, kV, doc, pm, an, cdv, ct, osl, e1, lk, _⟩ := F.ex
  obtain ⟨oc2, od2, dV2, kV2, doc2, pm2, an2, cdv2, ct2, osl2, e2, lk2, _⟩ := F'.ex
  rw [lk] at lk2
  cases lk2
  rfl
theorem leave_sat {ea : Nat → Addr} {fr : Bool} {W : Wd} {H : Hp} {s : Sto} {args : List D} {vs : List V} {Q : VK} {E : XK} {fd : FD} {C : Cl} {N : List Str} (hC : fd.nl = N.length) (R : RelSt K W s H) (r : Reps K W H args vs) (hfr : fd.fr = fr) (hle : fd.np ≤ N.length)
    (h : SatF K ea fr W H Q E (runF C fd args s)) : tSs C K (fun cls d _ H => E cls d H) ea fr fd.body { nx := fun _ H' => Q .non H', rt := Q } (L2.start N vs) H := by
  unfold runF at h
  split at h
  case isFalse => exact h.elim
  rename_i hlen
  have hl := r.length
  have hs : W.rho.length = s.length := R.len
  refine ⟨W, args.map some ++ List.replicate (fd.nl - fd.np) none, s, R, ⟨?_, fun i d q => ?_⟩, ?_⟩
  · unfold L2.start
    simp only [List.length_append, List.length_map, List.length_replicate]
    omega
  · by_cases hi : i < args.length
    · rw [List.getElem?_append_left (by simpa using hi), List.getElem?_map] at q
      cases e : args[i]? with
      | none => rw [e] at q; cases q
      | some d' =>
        rw [e] at q
        cases q
        obtain ⟨v, ev, rv⟩ := r.get e
        refine ⟨v, ?_, rv⟩
        unfold L2.start
        rw [List.getElem?_append_left (by simpa [← hl] using hi), List.getElem?_map, ev]
        rfl
    · rw [List.getElem?_append_right (by simpa using hi), List.getElem?_replicate] at q
      split at q <;> cases q
  · cases q : evSs C fd.body (args.map some ++ List.replicate (fd.nl - fd.np) none) s with
    | nx e1 s1 =>
      rw [q] at h
      simp only [leave] at h
      intro W' H' σ' g
      have g0 : Got K fr W H W' s1 H' .non .non := ⟨g.1, g.2.1, rfl, fun _ ds z => nomatch z⟩
      have gl := g0.left (fun _ => rfl)
      rw [hs] at gl
      exact h H' .non gl
    | ret d s1 =>
      rw [q] at h
      simp only at h
      split at h
      case isTrue => exact h.elim
      rename_i hlow
      simp only [leave] at h
      intro W' H' v g
      have gl := g.left (fun z => by
        rw [hs]
        rw [hfr, z, Bool.true_and] at hlow
        exact Bool.eq_false_iff.mpr hlow)
      rw [hs] at gl
      exact h H' v gl
    | exc k v e1 s1 =>
      rw [q] at h
      simp only at h
      refine ⟨h.1, fun W' H' σ' g => ?_⟩
      have g0 : Got K fr W H W' s1 H' .non .non := ⟨g.1, g.2.1, rfl, fun _ ds z => nomatch z⟩
      have gl := g0.left (fun _ => rfl)
      rw [hs] at gl
      exact h.2 H' gl.pres gl.st
    | brk _ _ => rw [q] at h; exact h.elim
    | cnt _ _ => rw [q] at h; exact h.elim
    | bad => rw [q] at h; exact h.elim
theorem callN_len {fs : List FD} {n f : Nat} {fd : FD} {ds : List D} {s : Sto} (h : fs[f]? = some fd) (hl : ds.length ≠ fd.np) : callN fs n f ds s = .bad := by
  cases n with
  | zero => rfl
  | succ n =>
    simp only [callN, h]
    unfold runF
    rw [if_neg hl]
theorem dfl_ok {G : GC} {d : He.DefD} {fd : FuncData} {f : Nat} {q : FI} {a : Addr} (F : FunD K d.name d.qual d.params d.body d.scope (q.dfl.map litV) [] a fd) (hl : q.dfl.all isLit = true) (hn : q.dfl.length ≤ q.ps.length) (e : G.dfl.getD f [] = q.dfl) (hb : BindQ d.params q.ps q.dfl.length) :
    Binds K fd q.ps [] ∧ DflOk G K fd q.ps f := by
  have key : ∀ j, j ≤ q.dfl.length → ∃ us, Binds K fd q.ps us ∧ Vals ((q.dfl.drop j).map litV) us := fun j hj => by
    by_cases z : q.dfl.length = 0
    · have z' : q.dfl = [] := List.eq_nil_of_length_eq_zero z
      rw [z'] at F ⊢
      simp only [List.drop_nil, List.map_nil]
      exact ⟨[], F.bindsN fun kV doc pm an cdv ct us hl => hb.1 z d.name d.qual d.body d.scope kV doc pm an cdv ct us hl, .nil⟩
    · obtain ⟨us, h1, h2⟩ := F.binds1 (ps := q.ps) (q.ps.length - (q.dfl.length - j)) j (by simpa using fun e => z (by rw [e]; rfl)) (by rw [List.length_map]; omega) fun T kV doc pm an cdv ct us its h1 h2 => by
        rw [List.length_map] at h2
        exact hb.2 (by omega) j hj d.name d.qual d.body d.scope T kV doc pm an cdv ct us its (by omega) h2
      exact ⟨us, h2, by rw [List.map_drop]; exact h1⟩
  refine ⟨?_, fun ds hs hle => ?_⟩
  · obtain ⟨us, h1, h2⟩ := key q.dfl.length (Nat.le_refl _)
    rw [List.drop_length] at h2
    cases h2
    exact h1
  · rw [e] at hs
    have hs := sames_eq2 _ _ hs
    obtain ⟨us, h1, h2⟩ := key (q.dfl.length - ds.length) (by omega)
    refine ⟨us, h1, by rw [hs]; exact h2, ?_⟩
    rw [hs]
    simp only [List.all_eq_true] at hl ⊢
    exact fun x hx => hl x (List.mem_of_mem_drop hx)
abbrev HAll (G : GC) (fn : List He.DefD) (fa : List He.Fa) (fis : List FI) : Prop :=
  ∀ f x, G.fns[f]? = some x → He.Fa.glo x ∈ fa ∧ ∃ q, fis[f]? = some q ∧ okF G fn q x = true ∧ frOf G f = q.fd.fr ∧ G.dfl.getD f [] = q.dfl ∧ ∀ d, fn[q.i]? = some d → BindQ d.params q.ps q.dfl.length
theorem one_ok {fn : List He.DefD} {fa : List He.Fa} {h : Heap} {G : GC} {fis : List FI} (c : He.SaysD fa fn K) (X : K.In h) (Gm : h.Ns mainGlobals mg) (hall : HAll G fn fa fis) :
    ∀ f x, G.fns[f]? = some x → ∃ (q : FI) (d : He.DefD) (fdd : FuncData), fis[f]? = some q ∧ frOf G f = q.fd.fr ∧ mg x = some (.ref (He.ga K x)) ∧ PySem.W.keepIn K (.ref (He.ga K x)) = true ∧ Binds K fdd q.ps [] ∧ DflOk G K fdd q.ps f ∧ FnScope q.N q.ps d.scope ∧
      FunD K d.name d.qual d.params d.body d.scope (q.dfl.map litV) [] (He.ga K x) fdd ∧ q.fd.np = q.ps.length ∧ q.fd.nl = q.N.length ∧ fn[q.i]? = some d ∧ d.qual = x ∧ (G.tabs.contains x = true → x ∈ tabDefs) ∧ chkSs G ⟨q.N, d.scope, none, G.tabs.contains x⟩ q.fd.fr q.fd.body d.body = true ∧ BindQ d.params q.ps q.dfl.length := by
  intro f x hf
  obtain ⟨hg, q, hq, ho, hfr, hdf, hb⟩ := hall f x hf
  unfold okF at ho
  split at ho
  case h_2 => cases ho
  rename_i d hd
  simp only [Bool.and_eq_true, decide_eq_true_eq, List.isEmpty_iff] at ho
  obtain ⟨⟨⟨⟨⟨⟨⟨⟨⟨h1, h2⟩, h3⟩, h4⟩, h5⟩, h6⟩, h8⟩, h9⟩, h10⟩, h7⟩ := ho
  obtain ⟨fdd, F⟩ := c.def_ q.i (d := d) hd
  obtain ⟨d1, d2⟩ := dvDs_v (K := K) h2
  have e1 : d.dvs K = q.dfl.map litV := d1
  have e2 : d.kws K = [] := by unfold He.DefD.kws; rw [h3]; rfl
  have e3 : He.fAd K d.at_ = He.ga K x := by rw [h1]; rfl
  rw [e1, e2, e3] at F
  obtain ⟨j, hj, ej⟩ := List.mem_iff_getElem.mp hg
  have gl := He.glo_ok X Gm (c.fact j (f := .glo x) (by rw [List.getElem?_eq_getElem hj, ej]))
  obtain ⟨B, D1⟩ := dfl_ok (G := G) (f := f) F d2 h9 hdf (hb d hd)
  refine ⟨q, d, fdd, hq, hfr, gl, F.kp, B, D1, okN_of h4, F, h5, h6, hd, h8, fun z => ?_, h7, hb d hd⟩
  rw [z] at h10
  simpa using h10
/-- where the tables of code objects stand -/
abbrev HTab (base : Heap) (mg : Str → Option Value) (K : PySem.W.Frag) : Prop := ∀ x ∈ tabDefs, LamX.TabB base mg (He.cT K (x, none)).1 (He.cT K (x, none)).2
theorem nodup_map_inj {α β : Type} {g : α → β} : ∀ {l : List α} {a b : α}, (l.map g).Nodup → a ∈ l → b ∈ l → g a = g b → a = b
  | [], _, _, _, h, _, _ => by cases h
  | x :: r, a, b, n, ha, hb, e => by
    rw [List.map_cons, List.nodup_cons] at n
    rcases List.mem_cons.mp ha with ha | ha <;> rcases List.mem_cons.mp hb with hb | hb
    · rw [ha, hb]
    · rw [ha] at e; exact absurd (List.mem_map.mpr ⟨b, hb, e.symm⟩) n.1
    · rw [hb] at e; exact absurd (List.mem_map.mpr ⟨a, ha, e⟩) n.1
    · exact nodup_map_inj n.2 ha hb e
theorem lam_of {X : Cx} {x : Str} (hT : HTab X.base X.mg X.K) (ha : (tabDefs.map fun x => (He.cT X.K (x, none)).2).Nodup) (hx : x ∈ tabDefs) (hc : X.env.code = .ref (He.cT X.K (x, none)).1) (hq : X.env.qual = locN x) :
    ∃ c P, LamX.TabB X.base X.mg c P ∧ X.env.code = .ref c ∧ (P, lamN X.env.qual) ∈ TK X.K ∧ ∀ p ∈ TK X.K, p.1 = P → p.2 = lamN X.env.qual := by
  refine ⟨(He.cT X.K (x, none)).1, (He.cT X.K (x, none)).2, hT x hx, hc, ?_, fun p hp e => ?_⟩
  · rw [hq]
    exact List.mem_map.mpr ⟨x, hx, rfl⟩
  · obtain ⟨y, hy, rfl⟩ := List.mem_map.mp hp
    have : y = x := nodup_map_inj (g := fun x => (He.cT X.K (x, none)).2) ha hy hx e
    rw [hq, this]
theorem fn_ok {fn : List He.DefD} {fa : List He.Fa} {h : Heap} {G : GC} {fis : List FI} {ea : Nat → Addr} (c : He.SaysD fa fn K) (X : K.In h) (Gm : h.Ns mainGlobals mg) (M : ModF G K mg ea) (hT : HTab base mg K) (hall : HAll G fn fa fis) :
    ∀ (n f : Nat) (x : Str) (q : FI) (d : He.DefD) (fdd : FuncData), G.fns[f]? = some x → fis[f]? = some q → fn[q.i]? = some d → FunD K d.name d.qual d.params d.body d.scope (q.dfl.map litV) [] (He.ga K x) fdd →
      FnOk P w K mg base (L2.CX P w) (3 * n) (He.ga K x) fdd q.ps (spD (clN (fis.map FI.fd) n) K ea (frOf G f) f q.ps.length) := by
  have lens : ∀ f x q, G.fns[f]? = some x → fis[f]? = some q → q.fd.np = q.ps.length → ∀ n ds s, ds.length ≠ q.ps.length → (clN (fis.map FI.fd) n).fn f ds s = .bad := fun f x q hf hq h5 n ds s hl =>
    callN_len (fd := q.fd) (by rw [List.getElem?_map, hq]; rfl) (by rw [h5]; exact hl)
  intro n
  induction n with
  | zero =>
    intro f x q d fdd hf hq hd F
    refine ⟨fun vs H Q E w => ?_, fun A outer s H args us vs Q E hr e0 hb hv hs => ?_⟩
    · obtain ⟨W, s, ds, R, r, hl, w⟩ := w
      exact w.elim
    · obtain ⟨W, s, ds, R, r, hl, w⟩ := hs
      exact w.elim
  | succ n ih =>
    have al : AllOk G (fis.map FI.fd) P w K mg base ea n := fun f x hf => by
      obtain ⟨q, d, fdd, hq, hfr, gl, kp, B, D1, S, F, h5, h6, hd, _⟩ := one_ok c X Gm hall f x hf
      exact ⟨_, fdd, q.ps, gl, kp, B, ih f x q d fdd hf hq hd F, lens f x q hf hq h5 n, D1⟩
    intro f x q d fdd hf hq hd F
    obtain ⟨q', d', fdd', hq', hfr, gl, kp, B, D1, S, F', h5, h6, hd', hqu, htab, h7, hb⟩ := one_ok c X Gm hall f x hf
    rw [hq] at hq'
    cases hq'
    rw [hd] at hd'
    cases hd'
    obtain ⟨oc, od, dV, kV, doc, pm, an, cdv, ct, osl, rfl, lk, hcd, _, _⟩ := F.ex
    refine fn_of (k := 3 * n + 2) lk hcd S (fun vs H Q E w => ?_) fun A outer s H vs Q E hr hsp => ?_
    · obtain ⟨W, s, ds, R, r, hl, w⟩ := w
      rw [← r.length]; exact hl
    · obtain ⟨W, st, ds, R, r, hl, hq2⟩ := hsp
      have ef : (fis.map FI.fd)[f]? = some q.fd := by rw [List.getElem?_map, hq]; rfl
      refine ⟨tSs (clN (fis.map FI.fd) n) K (fun cls d _ H => E cls d H) ea q.fd.fr q.fd.body, ?_, ?_⟩
      · have CC : CtxS G ⟨q.N, d.scope, none, G.tabs.contains x⟩ (clN (fis.map FI.fd) n) (fun cls d _ H => E cls d H) ea (3 * n) (cxOf (L2.CX P w) P w K mg base q.N d.qual d.scope (He.ga K x) cdv A outer s H E) := by
          refine ⟨⟨rfl, S.nd, rfl, rfl, hr.mono (by omega), takes_of rfl rfl rfl rfl, fun y hy => .inl rfl, M.cons, M.free, M.mods, al, M.exc, M.lams, fun hl => ⟨hr, ?_⟩⟩, passes_of rfl⟩
          have hx := htab hl
          obtain ⟨cc, rfl⟩ := He.codeIn_ref hcd
          have ec : (He.cT K (x, none)).1 = cc := He.codeOf_eq (p := (x, none)) lk rfl
          exact lam_of hT M.apart hx (congrArg Value.ref ec.symm) (congrArg locN hqu)
        exact sSs (fr := q.fd.fr) G (clN (fis.map FI.fd) n) ea (3 * n) CC q.fd.body d.body h7
      · have hle : q.fd.np ≤ q.N.length := by
          have := congrArg List.length S.pre
          rw [List.length_take] at this
          omega
        refine leave_sat (C := clN (fis.map FI.fd) n) (args := ds) h6 R r rfl hle ?_
        have e : (clN (fis.map FI.fd) (n + 1)).fn f ds st = runF (clN (fis.map FI.fd) n) q.fd ds st := by
          show callN (fis.map FI.fd) (n + 1) f ds st = _
          simp only [callN, ef]
          rfl
        rw [e] at hq2
        rw [← hfr]
        exact hq2
/-! ### a law -/
theorem sq_lst {H : Hp} {a : Addr} {xs : List V} (h : SqL K H a xs) : LstAt K ⟨[], []⟩ H a xs := by
  rcases h with (h | ⟨o, h⟩) | h
  · exact .inl ⟨h, by simp, by simp⟩
  · exact .inr (.inl ⟨o, h⟩)
  · exact .inr (.inr h)
theorem repsI {W : Wd} {H : Hp} : ∀ ns : List Int, Reps K W H (ns.map D.int) (ns.map V.int)
  | [] => rfl
  | n :: r => ⟨.int n, r.map V.int, rfl, rfl, repsI r⟩
theorem law_end {l : PySem.W.OpenLaw} {fn : List He.DefD} {fa : List He.Fa} {h : Heap} {G : GC} {fis : List FI} {ea : Nat → Addr} (c : He.SaysD fa fn K) (X : K.In h) (Gm : h.Ns mainGlobals mg) (M : ModF G K mg ea) (hall : HAll G fn fa fis)
    (hd1 : ∀ x ∈ tabDefs, PySem.W.codeHdIn K (He.cT K (x, none)).1 (He.cT K (x, none)).2 = true) (hd2 : ∀ x ∈ tabDefs, K.lookup (He.cT K (x, none)).2 = none) (hd3 : ∀ x ∈ tabDefs, h.get? (He.cT K (x, none)).2 = some { cls := .none, data := .fields #[] })
    {n k li : Nat} {x : Str} {fl : Addr} (hli : G.fns[li]? = some x) (hfl : mg x = some (.ref fl)) (hps : (fis[li]?).map FI.ps = some [("script" : Str)]) (hdl : (fis[li]?).map FI.dfl = some [])
    (hrun : ∀ ns : List Int, ns.length ≤ n → ∃ s', callN (fis.map FI.fd) k li [.lst (ns.map D.int)] [] = .ok (.bl true) s') :
    LamX.LawAtS l w K (L2.CX l.prog w) (3 * k) n "script" mg fl h := by
  obtain ⟨q, d, fdd, hq, hfr, gl, kp, B, D1, S, F, h5, h6, hd, hqu, htab, h7, hb⟩ := one_ok c X Gm hall li x hli
  rw [hfl] at gl
  cases gl
  rw [hq] at hps hdl
  have hps : q.ps = [("script" : Str)] := Option.some.inj hps
  have hdl : q.dfl = [] := Option.some.inj hdl
  refine ⟨fdd, tabDefs.map fun x => He.cT K (x, none), spD (clN (fis.map FI.fd) k) K ea (frOf G li) li q.ps.length, fun p hp => ?_, fun p hp => ?_, fun p hp => ?_, fun s u => ?_, fun H a ns hl _ hT hS => ?_, fun base hB _ hT => ?_⟩
  · obtain ⟨y, hy, rfl⟩ := List.mem_map.mp hp; exact hd3 y hy
  · obtain ⟨y, hy, rfl⟩ := List.mem_map.mp hp; exact hd2 y hy
  · obtain ⟨y, hy, rfl⟩ := List.mem_map.mp hp; exact PySem.W.codeHd_of_K X (hd1 y hy)
  · rw [hdl] at hb F
    have := F.bindsA (ps := q.ps) (fun kV doc pm an cdv ct us hl => hb.1 rfl d.name d.qual d.body d.scope kV doc pm an cdv ct us hl) s [u] (by rw [hps]; rfl)
    rw [hps] at this
    exact this
  · refine ⟨⟨[], []⟩, [], [.lst (ns.map D.int)], ⟨rfl, by simp, by simp, by simp, fun p hp => ?_⟩, ⟨.ref a, [], rfl, ?_, rfl⟩, by rw [hps]; rfl, ?_⟩
    · obtain ⟨y, hy, rfl⟩ := List.mem_map.mp hp
      exact LamX.TabS.nil (hT _ (List.mem_map.mpr ⟨y, hy, rfl⟩))
    · simp only [Rep]
      exact ⟨a, _, rfl, sq_lst hS, repsI ns⟩
    · obtain ⟨s', e⟩ := hrun ns hl
      have e : (clN (fis.map FI.fd) k).fn li [.lst (ns.map D.int)] [] = .ok (.bl true) s' := e
      rw [e]
      exact fun H' v g => g.rep
  · have := fn_ok (P := l.prog) (w := w) (base := base) (ea := ea) c X Gm M (fun y hy => hT _ (List.mem_map.mpr ⟨y, hy, rfl⟩)) hall k li x q d fdd hli hq hd F
    rw [hps] at this ⊢
    exact this
end
end Pv
end
section
set_option maxRecDepth 100000
set_option maxHeartbeats 4000000
namespace Pv
open PySem PySem.Spec PyProof.Rows L2
/-! ### one check of it all -/
def faGlo (fa : List He.Fa) (x : Str) : Bool := fa.any fun f => match f with
  | .glo y => decide (y = x)
  | _ => false
def faFree (fa : List He.Fa) (x : Str) : Bool := fa.any fun f => match f with
  | .free y => decide (y = x)
  | _ => false
def faExc (fa : List He.Fa) (x : Str) : Bool := fa.any fun f => match f with
  | .exc y => decide (y = x)
  | _ => false
def faInt (fa : List He.Fa) (x : Str) (d : D) : Bool := fa.any fun f => match f with
  | .int y i => decide (y = x) && same d (.int i)
  | _ => false
/-- tuples of the module's top, by their names -/
abbrev Tups := List (Str × List He.Dv)
def faTup (fa : List He.Fa) (tu : Tups) (x : Str) (d : D) : Bool := faGlo fa x && match d with
  | .tup ds => tu.any fun p => decide (p.1 = x) && dvDs p.2 ds
  | _ => false
def eqV (a b : Option (Option Value)) : Bool := decide (a = b)
def excCB (K : PySem.W.Frag) (D : Addr) : Bool :=
  eqV (PySem.W.findIn K (.ref D) "__getattribute__") (some (some (.builtin "BaseException.__getattribute__"))) && eqV (PySem.W.findIn K (.ref D) "__getattr__") (some none) && decide (PySem.W.subIn K (.ref D) (.type "BaseException") = some true) && PySem.W.hasDictIn K D &&
  eqV (PySem.W.findIn K (.ref D) "__class__") (some (some (.builtin "object.__class__"))) && eqV (PySem.W.specialIn K (.builtin "object.__class__") "__get__") (some (some (.builtin "getset_descriptor.__get__"))) && decide (PySem.W.takesIn K (.builtin "object.__class__") = some true) && decide (PySem.W.mroIn K D (.type "object") = some true)
theorem excC_of {K : PySem.W.Frag} {D : Addr} (h : excCB K D = true) : ExcC K D := by
  unfold excCB eqV at h
  simp only [Bool.and_eq_true, decide_eq_true_eq] at h
  obtain ⟨⟨⟨⟨⟨⟨⟨h1, h2⟩, h3⟩, h4⟩, h5⟩, h6⟩, h7⟩, h8⟩ := h
  exact ⟨h1, h2, h3, h4, h5, h6, h7, h8⟩
def modB (K : PySem.W.Frag) (b : BI) (x : Str) : Bool := decide (x = biName b) && eqV (PySem.W.nsIn K mainGlobals x) (some (some (biVal b)))
/-- what is looked up in the head's objects beyond the Fa's -/
def exB (excs zs : List Str) (tu : Tups) (mods : List Str) (K : PySem.W.Frag) : Bool :=
  (mods.all fun x => modB K .gcd x || modB K .comb x) &&
  (tu.all fun p => He.tupB K p.1 p.2) && ((List.range excs.length).all fun k => excCB K (eaK K excs k) && zs.all fun z => decide (PySem.W.kitOne K (.ref (eaK K excs k)) (.ref (He.ga K z)) = some (isxB excs k z)) && decide (PySem.W.exmOne K (.ref (eaK K excs k)) (.ref (He.ga K z)) = some (isxB excs k z))) &&
    decide ((tabDefs.map fun x => (He.cT K (x, none)).2).Nodup)
def okL (excs zs : List Str) (fn : List He.DefD) (q : LI) : Bool := match fn[q.i]? with
  | some d => decide (d.at_ = (q.x, none)) && decide (d.name = q.x) && decide (d.qual = q.x) && d.dfl.isEmpty && d.kwd.isEmpty && okN d.scope q.N [q.a] && visB d.scope q.a && !isDb q.a && decide (q.N[0]? = some q.a) && isLit q.d && (match d.body with
    | [.Try [.Expr (.Call (.Name a _) [] [] _) _] [.ExceptHandler (some (.Name e _)) n suite _] [] [] _, .Return (some (.Constant cc _ _)) _] => decide (a = q.a) && glX d.scope e && zs.contains e && (match litC cc with
      | some r => same r q.d
      | none => false) && (match n, suite with
      | some n, b₀ :: sr => decide (q.N[1]? = some n) && decide (d.scope.names.lookup n = some .local) && !isDb n && q.tb.all fun p => decide (p.1 < excs.length) && isxB excs p.1 e && isLit p.2 && (match suiteX d.scope excs zs n p.1 (b₀ :: sr) with
        | some r => same r p.2
        | none => false)
      | none, [.Return (some (.Constant c2 _ _)) _] => (match litC c2 with
        | some r => q.tb.all fun p => decide (p.1 < excs.length) && isxB excs p.1 e && isLit p.2 && same r p.2
        | none => false)
      | _, _ => false)
    | _ => false)
  | none => false
def sameL : List (Str × D × List (Nat × D)) → List LI → Bool
  | [], [] => true
  | (x, d, tb) :: r, q :: t => decide (x = q.x) && same d q.d && sameTb tb q.tb && sameL r t
  | _, _ => false
def okAll (G : GC) (fn : List He.DefD) (fa : List He.Fa) (fis : List FI) (lis : List LI) (zs : List Str) (tu : Tups) : Bool :=
  decide (fis.length = G.fns.length) && ((List.range G.fns.length).all fun f => match G.fns[f]?, fis[f]? with
    | some x, some q => faGlo fa x && okF G fn q x && (frOf G f == q.fd.fr) && sames (G.dfl.getD f []) q.dfl
    | _, _ => false) && (G.free.all fun x => faFree fa x) && (G.cons.all fun p => faInt fa p.1 p.2 || faTup fa tu p.1 p.2) && (G.excs.all fun x => faGlo fa x && faExc fa x) && (zs.all fun x => faGlo fa x) && (lis.isEmpty || (faFree fa "isinstance" && !G.excs.isEmpty)) && sameL G.lams lis && lis.all fun q => faGlo fa q.x && okL G.excs zs fn q
theorem faGlo_of {fa : List He.Fa} {x : Str} (h : faGlo fa x = true) : He.Fa.glo x ∈ fa := by
  unfold faGlo at h
  obtain ⟨f, hf, e⟩ := List.any_eq_true.mp h
  split at e
  · have := of_decide_eq_true e
    subst this
    exact hf
  · cases e
theorem faFree_of {fa : List He.Fa} {x : Str} (h : faFree fa x = true) : He.Fa.free x ∈ fa := by
  unfold faFree at h
  obtain ⟨f, hf, e⟩ := List.any_eq_true.mp h
  split at e
  · have := of_decide_eq_true e
    subst this
    exact hf
  · cases e
theorem faExc_of {fa : List He.Fa} {x : Str} (h : faExc fa x = true) : He.Fa.exc x ∈ fa := by
  unfold faExc at h
  obtain ⟨f, hf, e⟩ := List.any_eq_true.mp h
  split at e
  · have := of_decide_eq_true e
    subst this
    exact hf
  · cases e
theorem fa_ok {K : PySem.W.Frag} {fn : List He.DefD} {fa : List He.Fa} (c : He.SaysD fa fn K) {f : He.Fa} (h : f ∈ fa) : f.ok K = true := by
  obtain ⟨j, hj, ej⟩ := List.mem_iff_getElem.mp h
  exact c.fact j (f := f) (by rw [List.getElem?_eq_getElem hj, ej])
theorem sameTb_eq : ∀ {a b : List (Nat × D)}, sameTb a b = true → a = b
  | [], [], _ => rfl
  | (k, x) :: r, (j, y) :: t, h => by
    simp only [sameTb, Bool.and_eq_true, decide_eq_true_eq] at h
    rw [h.1.1, same_eq2 _ _ h.1.2, sameTb_eq h.2]
  | [], _ :: _, h => by simp [sameTb] at h
  | _ :: _, [], h => by simp [sameTb] at h
theorem sameL_mem : ∀ {a : List (Str × D × List (Nat × D))} {b : List LI}, sameL a b = true → ∀ x d tb, (x, d, tb) ∈ a → ∃ q ∈ b, q.x = x ∧ q.d = d ∧ q.tb = tb
  | [], [], _, _, _, _, h => by cases h
  | (x, d, tb) :: r, q :: t, h, x', d', tb', hm => by
    simp only [sameL, Bool.and_eq_true, decide_eq_true_eq] at h
    rcases List.mem_cons.mp hm with e | e
    · cases e
      exact ⟨q, by simp, h.1.1.1.symm, (same_eq2 _ _ h.1.1.2).symm, (sameTb_eq h.1.2).symm⟩
    · obtain ⟨q', h1, h2⟩ := sameL_mem h.2 x' d' tb' e
      exact ⟨q', List.mem_cons_of_mem _ h1, h2⟩
  | [], _ :: _, h, _, _, _, _ => by simp [sameL] at h
  | _ :: _, [], h, _, _, _, _ => by simp [sameL] at h
theorem lookup_mem {α : Type} {k : Nat} {r : α} : ∀ {l : List (Nat × α)}, l.lookup k = some r → (k, r) ∈ l
  | [], h => by cases h
  | (j, x) :: t, h => by
    rw [List.lookup_cons] at h
    split at h
    · rename_i e
      cases h
      rw [eq_of_beq e]
      simp
    · exact List.mem_cons_of_mem _ (lookup_mem h)
theorem lamD_of {K : PySem.W.Frag} {mg : Str → Option Value} {h : Heap} {excs zs : List Str} {fn : List He.DefD} {fa : List He.Fa} {q : LI} (c : He.SaysD fa fn K) (X : K.In h) (Gm : h.Ns mainGlobals mg) (F : ExcsF K mg excs zs) (hne : excs ≠ []) (hg : faGlo fa q.x = true) (ok : okL excs zs fn q = true)
    (hb : ∀ d, fn[q.i]? = some d → BindA d.params [q.a]) : LamD K mg (eaK K excs) q.x q.d q.tb ∧ isLit q.d = true ∧ ∀ k r, q.tb.lookup k = some r → isLit r = true := by
  unfold okL at ok
  split at ok
  case h_2 => cases ok
  rename_i d hd
  simp only [Bool.and_eq_true, decide_eq_true_eq, List.isEmpty_iff, Bool.not_eq_true'] at ok
  obtain ⟨⟨⟨⟨⟨⟨⟨⟨⟨⟨h1, h2⟩, h3⟩, h4⟩, h5⟩, h6⟩, h7⟩, h8⟩, h9⟩, h10⟩, h11⟩ := ok
  obtain ⟨fdd, FF⟩ := c.def_ q.i (d := d) hd
  have e1 : d.dvs K = [] := by unfold He.DefD.dvs; rw [h4]; rfl
  have e2 : d.kws K = [] := by unfold He.DefD.kws; rw [h5]; rfl
  have e3 : He.fAd K d.at_ = He.ga K q.x := by rw [h1]; rfl
  rw [e1, e2, e3, h2, h3] at FF
  have gl := He.glo_ok X Gm (fa_ok c (faGlo_of hg))
  have B := FF.bindsN fun kV doc pm an cdv ct us hl => hb d hd q.x q.x d.body d.scope kV doc pm an cdv ct us hl
  have S := okN_of h6
  have h0 : ∀ f : Addr, (L2.start q.N [V.ref f])[0]? = some (some (V.ref f)) := fun f => by simp [L2.start]
  obtain ⟨oc, od, dV, kV, doc, pm, an, cdv, ct, osl, rfl, lk, hcd, _, _⟩ := FF.ex
  have fin : (∀ (X' : Cx) (qq : Str), X'.K = K → X'.mg = mg → LamX.GivesTo X' q.N q.x d.scope (He.ga K q.x) cdv d.body q.a qq (TTl (eaK K excs) q.d q.tb)) → LamD K mg (eaK K excs) q.x q.d q.tb := fun gv =>
    ⟨q.a, He.ga K q.x, d.params, d.body, d.scope, dV, kV, doc, pm, cdv, ct, oc, an, od, osl, q.N, gl, FF.kp, lk, hcd, B, S, h9, vis_of h7, (isDb_no h8).1, (isDb_no h8).2, gv⟩
  split at h11
  case h_2 => cases h11
  rename_i a p1 p2 p3 e p4 n suite p5 p6 cc j p7 p8 hbd
  simp only [Bool.and_eq_true, decide_eq_true_eq] at h11
  obtain ⟨⟨⟨⟨g1, g2⟩, g3⟩, g4⟩, g5⟩ := h11
  subst g1
  split at g4
  case h_2 => cases g4
  rename_i r hr
  have hr2 := same_eq2 _ _ g4
  subst hr2
  split at g5
  · rename_i nn b0 sr
    simp only [Bool.and_eq_true, decide_eq_true_eq, Bool.not_eq_true', List.all_eq_true] at g5
    obtain ⟨⟨⟨k1, k2⟩, k3⟩, k4⟩ := g5
    refine ⟨fin fun X' qq eK em => ?_, h10, fun k r hl => ((k4 _ (lookup_mem hl)).1).2⟩
    subst eK em
    rw [hbd]
    refine lam_as F g2 (List.contains_iff_mem.mp g3) h0 S.nd k1 k2 k3 hr hne fun k r hl => ?_
    obtain ⟨⟨⟨f1, f2⟩, f3⟩, f4⟩ := k4 _ (lookup_mem hl)
    split at f4
    · rename_i r' hs
      exact ⟨_, r', List.getElem?_eq_getElem f1, f2, hs, by rw [same_eq2 _ _ f4]⟩
    · cases f4
  · rename_i c2 j2 p9 p10
    split at g5
    case h_2 => cases g5
    rename_i r0 hr0
    simp only [List.all_eq_true, Bool.and_eq_true, decide_eq_true_eq] at g5
    refine ⟨fin fun X' qq eK em => ?_, h10, fun k r hl => ((g5 _ (lookup_mem hl)).1).2⟩
    subst eK em
    rw [hbd]
    refine lam_only F g2 (List.contains_iff_mem.mp g3) h0 hr hr0 hne fun k r hl => ?_
    obtain ⟨⟨⟨f1, f2⟩, f3⟩, f4⟩ := g5 _ (lookup_mem hl)
    exact ⟨_, List.getElem?_eq_getElem f1, f2, by rw [same_eq2 _ _ f4]⟩
  · cases g5
theorem reps_dv {K : PySem.W.Frag} {W : Wd} {H : Hp} : ∀ {vs : List He.Dv} {ds : List D}, dvDs vs ds = true → Reps K W H ds (vs.map (He.Dv.v K)) := fun {vs ds} h => by
  obtain ⟨e1, e2⟩ := dvDs_v (K := K) h
  rw [e1]
  exact Reps.lits e2
theorem biName_inj {a b : BI} (h : biName a = biName b) : a = b := by
  cases a <;> cases b <;> first | rfl | (exfalso; revert h; decide +kernel)
theorem modF_of {K : PySem.W.Frag} {mg : Str → Option Value} {h : Heap} {G : GC} {fn : List He.DefD} {fa : List He.Fa} {fis : List FI} {lis : List LI} {zs : List Str} {tu : Tups} (c : He.SaysD fa fn K) (X : K.In h) (Gm : h.Ns mainGlobals mg) (ok : okAll G fn fa fis lis zs tu = true) (ex : exB G.excs zs tu G.mods K = true)
    (hb : ∀ q ∈ lis, ∀ d, fn[q.i]? = some d → BindA d.params [q.a]) : ModF G K mg (eaK K G.excs) := by
  unfold okAll at ok
  simp only [Bool.and_eq_true, List.all_eq_true] at ok
  obtain ⟨⟨⟨⟨⟨⟨⟨⟨h1, h2⟩, h3⟩, h4⟩, h6⟩, h7⟩, h8⟩, h9⟩, h10⟩ := ok
  unfold exB at ex
  simp only [Bool.and_eq_true, List.all_eq_true, decide_eq_true_eq, List.mem_range] at ex
  obtain ⟨⟨⟨x0, x1⟩, x2⟩, x3⟩ := ex
  have E1 : ∀ k x, G.excs[k]? = some x → ExcF K mg (eaK K G.excs k) x := fun k x hk => by
    obtain ⟨f1, f2⟩ := h6 x (List.mem_of_getElem? hk)
    have ea : eaK K G.excs k = He.ga K x := by unfold eaK; rw [List.getD_eq_getElem?_getD, hk]; rfl
    obtain ⟨q1, q2, q3, q4⟩ := He.exc_ok (fa_ok c (faExc_of f2))
    rw [ea]
    exact ⟨He.glo_ok X Gm (fa_ok c (faGlo_of f1)), q2, q1, q3, q4⟩
  refine ⟨fun x d hc => ?_, fun x hx => He.free_ok X Gm (fa_ok c (faFree_of (h3 x (List.contains_iff_mem.mp hx)))), fun b hb => ?_, E1, fun x d tb hl => ?_, x3⟩
  · unfold consB at hc
    obtain ⟨p, hp, e⟩ := List.any_eq_true.mp hc
    simp only [Bool.and_eq_true, decide_eq_true_eq] at e
    obtain ⟨e1, e2⟩ := e
    have e3 := same_eq2 _ _ e2
    have q := h4 p hp
    rw [Bool.or_eq_true] at q
    rcases q with q | q
    · unfold faInt at q
      obtain ⟨f, hf, e⟩ := List.any_eq_true.mp q
      split at e
      · rename_i y i
        simp only [Bool.and_eq_true, decide_eq_true_eq] at e
        obtain ⟨e4, e5⟩ := e
        have e6 := same_eq2 _ _ e5
        obtain ⟨t, g⟩ := He.int_ok X Gm (fa_ok c hf)
        rw [e4, e1] at g
        rw [e3] at e6
        subst e6
        exact ⟨.int i t, .int i, g, ⟨t, rfl⟩, fun _ _ => rfl⟩
      · cases e
    · unfold faTup at q
      rw [Bool.and_eq_true] at q
      obtain ⟨q1, q2⟩ := q
      have g := He.glo_ok X Gm (fa_ok c (faGlo_of q1))
      rw [e3] at q2
      split at q2
      · rename_i ds
        obtain ⟨t, ht, q3⟩ := List.any_eq_true.mp q2
        simp only [Bool.and_eq_true, decide_eq_true_eq] at q3
        have T := x1 t ht
        rw [q3.1, e1] at T
        rw [e1] at g
        refine ⟨_, .ref (He.ga K x), g, rfl, fun W H => ?_⟩
        simp only [Rep]
        exact ⟨_, _, rfl, He.tupB_ok T H, reps_dv q3.2⟩
      · cases q2
  · have q := x0 _ (List.contains_iff_mem.mp hb)
    rw [Bool.or_eq_true] at q
    unfold modB eqV at q
    simp only [Bool.and_eq_true, decide_eq_true_eq] at q
    rcases q with q | q
    · cases biName_inj q.1
      exact PySem.W.mg_of X Gm q.2
    · cases biName_inj q.1
      exact PySem.W.mg_of X Gm q.2
  · unfold lamF at hl
    obtain ⟨p, hp, e⟩ := List.any_eq_true.mp hl
    simp only [Bool.and_eq_true, decide_eq_true_eq] at e
    obtain ⟨⟨e1, e2⟩, e3⟩ := e
    obtain ⟨q, hq, f1, f2, f3⟩ := sameL_mem h9 p.1 p.2.1 p.2.2 hp
    have e2 := same_eq2 _ _ e2
    have e3 := sameTb_eq e3
    rw [← e1, ← e2, ← e3, ← f1, ← f2, ← f3]
    obtain ⟨g1, g2⟩ := h10 q hq
    rw [Bool.or_eq_true] at h8
    rcases h8 with z | z
    · rw [List.isEmpty_iff.mp z] at hq
      cases hq
    · simp only [Bool.and_eq_true, Bool.not_eq_true'] at z
      have hne : G.excs ≠ [] := fun e => by rw [e] at z; simp at z
      refine lamD_of c X Gm ⟨fun k x hk => ⟨E1 k x hk, excC_of (x2 k (List.getElem?_eq_some_iff.mp hk).1).1⟩, fun k x z hk hz => ?_, He.free_ok X Gm (fa_ok c (faFree_of z.1))⟩ hne g1 g2 (hb q hq)
      exact ⟨He.glo_ok X Gm (fa_ok c (faGlo_of (h7 z hz))), (x2 k (List.getElem?_eq_some_iff.mp hk).1).2 z hz⟩
theorem all_of {G : GC} {fn : List He.DefD} {fa : List He.Fa} {fis : List FI} {lis : List LI} {zs : List Str} {tu : Tups} (ok : okAll G fn fa fis lis zs tu = true) (hb : ∀ q ∈ fis, ∀ d, fn[q.i]? = some d → BindQ d.params q.ps q.dfl.length) : HAll G fn fa fis := by
  unfold okAll at ok
  simp only [Bool.and_eq_true, List.all_eq_true] at ok
  obtain ⟨⟨⟨⟨⟨⟨⟨⟨h1, h2⟩, h3⟩, h4⟩, h6⟩, h7⟩, h8⟩, h9⟩, h10⟩ := ok
  intro f x hf
  have hlt := (List.getElem?_eq_some_iff.mp hf).1
  have q := h2 f (List.mem_range.mpr hlt)
  rw [hf] at q
  split at q
  · rename_i x' q' e1 e2
    cases e1
    simp only [Bool.and_eq_true] at q
    exact ⟨faGlo_of q.1.1.1, q', e2, q.1.1.2, eq_of_beq q.1.2, sames_eq2 _ _ q.2, hb q' (List.mem_of_getElem? e2)⟩
  · cases q
/-- the end of a law: what the head says of its objects, and the run of the evaluator -/
theorem law_of {l : PySem.W.OpenLaw} {w : World} {mg : Str → Option Value} {h : Heap} {G : GC} {fn : List He.DefD} {fa : List He.Fa} {fis : List FI} {lis : List LI} {zs : List Str} {tu : Tups} {K : PySem.W.Frag} {n k li : Nat} {x : Str} {fl : Addr}
    (X : K.In h) (c : He.SaysX fa fn [] (tabDefs.map fun x => (x, none)) (exB G.excs zs tu G.mods) w h K) (Gm : h.Ns mainGlobals mg) (ok : okAll G fn fa fis lis zs tu = true) (hb : ∀ q ∈ fis, ∀ d, fn[q.i]? = some d → BindQ d.params q.ps q.dfl.length) (hbl : ∀ q ∈ lis, ∀ d, fn[q.i]? = some d → BindA d.params [q.a])
    (hli : G.fns[li]? = some x) (hfl : mg x = some (.ref fl)) (hps : (fis[li]?).map FI.ps = some [("script" : Str)]) (hdl : (fis[li]?).map FI.dfl = some [])
    (hrun : ∀ ns : List Int, ns.length ≤ n → ∃ s', callN (fis.map FI.fd) k li [.lst (ns.map D.int)] [] = .ok (.bl true) s') : LamX.LawAtS l w K (L2.CX l.prog w) (3 * k) n "script" mg fl h :=
  law_end c.t.d X Gm (modF_of c.t.d X Gm ok c.more hbl) (all_of ok hb) (fun y hy => c.hd _ (List.mem_map.mpr ⟨y, hy, rfl⟩)) (fun y hy => c.out _ (List.mem_map.mpr ⟨y, hy, rfl⟩)) (fun y hy => c.empty _ (List.mem_map.mpr ⟨y, hy, rfl⟩)) hli hfl hps hdl hrun
theorem cx_end : ∀ (P : Program) (w : World) (H : Hp) (s : Shared) (e : Value) (s' : Shared), L2.CX P w [] H s (fun _ _ _ => False) e s' → False := fun _ _ _ _ _ _ ⟨_, _, _, _, _, _, _, _, _, _, _, _, z⟩ => z
end Pv
end
section
set_option maxRecDepth 100000
set_option maxHeartbeats 0
namespace LawTop
open PySem PySem.Spec PyProof.Rows L2
abbrev PR : PySem.Program := PySem.Challenge.pw_blendhouse_k52_exchanges_added_and_doubl
abbrev R : PySem.W.OpenRow := PySem.W.OpenLaw.row PySem.Challenge.rw_blendhouse_k52_exchanges_added_and_doubl
def dfls : List (PySem.Str × List He.Dv) := []
def mkD : PySem.Stmt → Option He.DefD
  | .FunctionDef n a b _ _ _ sc _ _ _ => some ⟨(n, none), n, n, a, b, sc, (dfls.lookup n).getD [], []⟩
  | _ => none
def fn : List He.DefD := PR.main.body.filterMap mkD
def excs : List PySem.Str := ["BlendError", "InvalidMoves", "InvalidStock", "InvalidRow", "InvalidShape", "NotFound"]
def zs : List PySem.Str := ["NotFound"]
def tu : Pv.Tups := []
def mods : List PySem.Str := []
def lo0 : List PySem.Str := ["BlendError", "InvalidMoves", "InvalidStock", "InvalidRow", "InvalidShape", "NotFound", "is_whole", "is_tuple_of", "are_wholes", "HEAVY", "MANY", "MARKS", "is_table", "need_table", "most_of", "totals_of_piles", "fits_stock", "is_stock", "need_stock", "totals_of", "yard_of", "need_totals", "yard", "brings_of", "takes_of"]
def lo1 : List PySem.Str := ["fits_exchange", "is_exchange", "need_exchange", "brings", "takes", "has_of", "moved_by", "made_of", "_law_cup", "_law_roll", "_law_some", "_law_like", "_law_table", "_law_add", "_law_times", "_law_first", "_law_stock", "_law_fits", "_law_right"]
def loose : List PySem.Str := lo0 ++ lo1
def fa0 : List He.Fa := [.glo "is_whole", .glo "is_tuple_of", .glo "are_wholes", .glo "is_table", .glo "need_table", .glo "most_of", .glo "totals_of_piles", .glo "fits_stock", .glo "is_stock", .glo "need_stock", .glo "totals_of", .glo "yard_of", .glo "need_totals", .glo "yard", .glo "brings_of", .glo "takes_of", .glo "fits_exchange", .glo "is_exchange", .glo "need_exchange", .glo "brings", .glo "takes", .glo "has_of", .glo "moved_by", .glo "made_of", .glo "_law_cup"]
def fa1 : List He.Fa := [.glo "_law_roll", .glo "_law_some", .glo "_law_like", .glo "_law_table", .glo "_law_add", .glo "_law_times", .glo "_law_first", .glo "_law_stock", .glo "_law_fits", .glo "_law_right", .glo "law", .free "ValueError", .free "abs", .free "all", .free "bool", .free "enumerate", .free "int", .free "isinstance", .free "len", .free "list", .free "max", .free "range", .free "sum", .free "tuple", .free "zip"]
def fa2 : List He.Fa := [.glo "BlendError", .glo "InvalidMoves", .glo "InvalidStock", .glo "InvalidRow", .glo "InvalidShape", .glo "NotFound", .exc "BlendError", .exc "InvalidMoves", .exc "InvalidStock", .exc "InvalidRow", .exc "InvalidShape", .exc "NotFound", .int "HEAVY" (36), .int "MANY" (8), .int "MARKS" (4)]
def fa : List He.Fa := fa0 ++ fa1 ++ fa2
def tf : List He.Defn := Pv.tabDefs.map fun x => (x, none)
abbrev ex : PySem.W.Frag → Bool := Pv.exB excs zs tu mods
abbrev hk : PySem.W.Hook := He.hookX 4 fa fn [] tf ex
def ob (s : PySem.W.SharedT) : He.AlX := He.obsX 4 fa fn [] tf ex (HandSHeadRun.getT s)
theorem ob_eq (s : PySem.W.SharedT) : ob s = hk.obs s.abs := He.obsX_eq (HandSHeadRun.getT_eq s)
theorem run (w : World) : HandSHeadRun.RunEq R (PySem.W.view R.prog [48]) hk ob 12000 loose w := by
  intro os
  kernel_rfl
end LawTop
end
section
set_option maxRecDepth 100000
set_option maxHeartbeats 0
namespace LawTop
open PySem PySem.Spec PyProof.Rows L2 Pv
def dD : He.DefD := ⟨("", none), "", "", ⟨[], [], none, [], [], none, []⟩, [], ⟨.function, [], false, false, []⟩, [], []⟩
def b_is_whole : CSs := (.cons (.ret (.and (.isi (.var 0) .int) (.and (.not (.isi (.var 0) .bool)) (.chn .le .le (.var 1) (.var 0) (.var 2))))) .nil)
def q_is_whole : FI := ⟨0, ["value", "low", "high"], ["value", "low", "high"], ⟨3, 3, false, b_is_whole⟩, []⟩
def b_is_tuple_of : CSs := (.cons (.ret (.and (.isi (.var 0) .tuple) (.chn .le .le (.var 1) (.bi .len (.cons (.var 0) .nil)) (.var 2)))) .nil)
def q_is_tuple_of : FI := ⟨1, ["value", "low", "high"], ["value", "low", "high"], ⟨3, 3, false, b_is_tuple_of⟩, []⟩
def b_are_wholes : CSs := (.cons (.ret (.and (.call 1 (.cons (.var 0) (.cons (.var 1) (.cons (.var 1) .nil)))) (.bi .all (.cons (.comp [("one", 4)] (.nm 4) (.of (.var 0)) .nil (.call 0 (.cons (.var 4) (.cons (.var 2) (.cons (.var 3) .nil))))) .nil)))) .nil)
def q_are_wholes : FI := ⟨2, ["value", "many", "low", "high"], ["value", "many", "low", "high", "one"], ⟨4, 5, false, b_are_wholes⟩, []⟩
def b_is_table : CSs := (.cons (.ife (.not (.call 1 (.cons (.var 0) (.cons (.lit (.int 1)) (.cons (.lit (.int 2)) .nil))))) (.cons (.ret (.lit (.bl false))) .nil) .nil) (.cons (.ife (.cmp .eq (.bi .len (.cons (.var 0) .nil)) (.lit (.int 1))) (.cons (.ret (.and (.call 1 (.cons (.idx (.var 0) (.lit (.int 0))) (.cons (.lit (.int 2)) (.cons (.lit (.int 3)) .nil)))) (.call 2 (.cons (.idx (.var 0) (.lit (.int 0))) (.cons (.bi .len (.cons (.idx (.var 0) (.lit (.int 0))) .nil)) (.cons (.lit (.int 1)) (.cons (.lit (.int 6)) .nil))))))) .nil) .nil) (.cons (.ife (.or (.not (.call 1 (.cons (.idx (.var 0) (.lit (.int 0))) (.cons (.lit (.int 3)) (.cons (.lit (.int 4)) .nil))))) (.not (.call 2 (.cons (.idx (.var 0) (.lit (.int 0))) (.cons (.bi .len (.cons (.idx (.var 0) (.lit (.int 0))) .nil)) (.cons (.lit (.int 1)) (.cons (.lit (.int 1)) .nil))))))) (.cons (.ret (.lit (.bl false))) .nil) .nil) (.cons (.ret (.call 2 (.cons (.idx (.var 0) (.lit (.int 1))) (.cons (.bi .len (.cons (.idx (.var 0) (.lit (.int 0))) .nil)) (.cons (.lit (.int 0)) (.cons (.glo "MARKS" (.int 4)) .nil)))))) .nil))))
def q_is_table : FI := ⟨3, ["value"], ["value"], ⟨1, 1, false, b_is_table⟩, []⟩
def b_need_table : CSs := (.cons (.ife (.not (.call 3 (.cons (.var 0) .nil))) (.cons (.rais 4 "not a table") .nil) .nil) .nil)
def q_need_table : FI := ⟨4, ["table"], ["table"], ⟨1, 1, false, b_need_table⟩, []⟩
def b_most_of : CSs := (.cons (.ret (.ite (.cmp .eq (.bi .len (.cons (.var 0) .nil)) (.lit (.int 1))) (.glo "HEAVY" (.int 36)) (.glo "MANY" (.int 8)))) .nil)
def q_most_of : FI := ⟨5, ["table"], ["table"], ⟨1, 1, false, b_most_of⟩, []⟩
def b_totals_of_piles : CSs := (.cons (.ret (.bi .tuple (.cons (.comp [("row", 2)] (.nm 2) (.of (.var 0)) .nil (.bi .sum (.cons (.comp [("each", 3), ("many", 4)] (.tp (.cons (.nm 3) (.cons (.nm 4) .nil))) (.zip (.var 2) (.var 1)) .nil (.bin .mul (.var 3) (.var 4))) .nil))) .nil))) .nil)
def q_totals_of_piles : FI := ⟨6, ["table", "piles"], ["table", "piles", "row", "each", "many"], ⟨2, 5, false, b_totals_of_piles⟩, []⟩
def b_fits_stock : CSs := (.cons (.ret (.and (.call 2 (.cons (.var 1) (.cons (.bi .len (.cons (.idx (.var 0) (.lit (.int 0))) .nil)) (.cons (.lit (.int 0)) (.cons (.glo "HEAVY" (.int 36)) .nil))))) (.cmp .le (.idx (.call 6 (.cons (.var 0) (.cons (.var 1) .nil))) (.lit (.int 0))) (.call 5 (.cons (.var 0) .nil))))) .nil)
def q_fits_stock : FI := ⟨7, ["table", "value"], ["table", "value"], ⟨2, 2, false, b_fits_stock⟩, []⟩
def b_is_stock : CSs := (.cons (.exp (.call 4 (.cons (.var 0) .nil))) (.cons (.ret (.call 7 (.cons (.var 0) (.cons (.var 1) .nil)))) .nil))
def q_is_stock : FI := ⟨8, ["table", "value"], ["table", "value"], ⟨2, 2, false, b_is_stock⟩, []⟩
def b_need_stock : CSs := (.cons (.exp (.call 4 (.cons (.var 0) .nil))) (.cons (.ife (.not (.call 7 (.cons (.var 0) (.cons (.var 1) .nil)))) (.cons (.rais 2 "not a stock of the table") .nil) .nil) .nil))
def q_need_stock : FI := ⟨9, ["table", "stock"], ["table", "stock"], ⟨2, 2, false, b_need_stock⟩, []⟩
def b_totals_of : CSs := (.cons (.exp (.call 9 (.cons (.var 0) (.cons (.var 1) .nil)))) (.cons (.ret (.call 6 (.cons (.var 0) (.cons (.var 1) .nil)))) .nil))
def q_totals_of : FI := ⟨10, ["table", "stock"], ["table", "stock"], ⟨2, 2, false, b_totals_of⟩, []⟩
def b_yard_of : CSs := (.cons (.asg (.nm 2) (.lst (.cons (.tup (.cons (.tup .nil) (.cons (.idx (.var 1) (.lit (.int 0))) .nil))) .nil))) (.cons (.asg (.nm 3) (.bin .sub (.bi .len (.cons (.idx (.var 0) (.lit (.int 0))) .nil)) (.lit (.int 1)))) (.cons (.for_ (.tp (.cons (.nm 4) (.cons (.nm 5) .nil))) (.enum (.idx (.var 0) (.lit (.int 0)))) (.cons (.asg (.nm 6) (.thaw (.lst .nil))) (.cons (.for_ (.tp (.cons (.nm 7) (.cons (.nm 8) .nil))) (.of (.var 2)) (.cons (.ife (.cmp .lt (.var 4) (.var 3)) (.cons (.ext (.var 6) (.comp [("many", 9)] (.nm 9) (.range (.cons (.bin .add (.bin .fdiv (.var 8) (.var 5)) (.lit (.int 1))) .nil)) .nil (.tup (.cons (.bin .add (.var 7) (.tup (.cons (.var 9) .nil))) (.cons (.bin .sub (.var 8) (.bin .mul (.var 9) (.var 5))) .nil))))) .nil) (.cons (.ife (.cmp .eq (.bin .mod (.var 8) (.var 5)) (.lit (.int 0))) (.cons (.app (.var 6) (.tup (.cons (.bin .add (.var 7) (.tup (.cons (.bin .fdiv (.var 8) (.var 5)) .nil))) (.cons (.lit (.int 0)) .nil)))) .nil) .nil) .nil)) .nil)) (.cons (.asg (.nm 2) (.var 6)) .nil)))) (.cons (.ret (.bi .tuple (.cons (.comp [("part", 7), ("left", 8)] (.tp (.cons (.nm 7) (.cons (.nm 8) .nil))) (.of (.var 2)) (.cons (.cmp .eq (.call 6 (.cons (.var 0) (.cons (.var 7) .nil))) (.var 1)) .nil) (.var 7)) .nil))) .nil))))
def q_yard_of : FI := ⟨11, ["table", "totals"], ["table", "totals", "found", "last", "at", "each", "wider", "part", "left", "many"], ⟨2, 10, false, b_yard_of⟩, []⟩
def b_need_totals : CSs := (.cons (.exp (.call 4 (.cons (.var 0) .nil))) (.cons (.ife (.or (.not (.call 2 (.cons (.var 1) (.cons (.bi .len (.cons (.var 0) .nil)) (.cons (.lit (.int 0)) (.cons (.glo "HEAVY" (.int 36)) .nil)))))) (.or (.cmp .gt (.idx (.var 1) (.lit (.int 0))) (.call 5 (.cons (.var 0) .nil))) (.cmp .eq (.call 11 (.cons (.var 0) (.cons (.var 1) .nil))) (.tup .nil)))) (.cons (.rais 3 "not the totals of a stock") .nil) .nil) .nil))
def q_need_totals : FI := ⟨12, ["table", "totals"], ["table", "totals"], ⟨2, 2, false, b_need_totals⟩, []⟩
def b_yard : CSs := (.cons (.exp (.call 12 (.cons (.var 0) (.cons (.var 1) .nil)))) (.cons (.ret (.call 11 (.cons (.var 0) (.cons (.var 1) .nil)))) .nil))
def q_yard : FI := ⟨13, ["table", "totals"], ["table", "totals"], ⟨2, 2, false, b_yard⟩, []⟩
def b_brings_of : CSs := (.cons (.ret (.bi .tuple (.cons (.comp [("many", 1)] (.nm 1) (.of (.var 0)) .nil (.bi .max (.cons (.var 1) (.cons (.lit (.int 0)) .nil)))) .nil))) .nil)
def q_brings_of : FI := ⟨14, ["exchange"], ["exchange", "many"], ⟨1, 2, false, b_brings_of⟩, []⟩
def b_takes_of : CSs := (.cons (.ret (.bi .tuple (.cons (.comp [("many", 1)] (.nm 1) (.of (.var 0)) .nil (.bi .max (.cons (.neg (.var 1)) (.cons (.lit (.int 0)) .nil)))) .nil))) .nil)
def q_takes_of : FI := ⟨15, ["exchange"], ["exchange", "many"], ⟨1, 2, false, b_takes_of⟩, []⟩
def b_fits_exchange : CSs := (.cons (.ife (.not (.call 2 (.cons (.var 1) (.cons (.bi .len (.cons (.idx (.var 0) (.lit (.int 0))) .nil)) (.cons (.neg (.glo "HEAVY" (.int 36))) (.cons (.glo "HEAVY" (.int 36)) .nil)))))) (.cons (.ret (.lit (.bl false))) .nil) .nil) (.cons (.asg (.tp (.cons (.nm 2) (.cons (.nm 3) .nil))) (.tup (.cons (.call 14 (.cons (.var 1) .nil)) (.cons (.call 15 (.cons (.var 1) .nil)) .nil)))) (.cons (.ife (.or (.not (.call 7 (.cons (.var 0) (.cons (.var 2) .nil)))) (.not (.call 7 (.cons (.var 0) (.cons (.var 3) .nil))))) (.cons (.ret (.lit (.bl false))) .nil) .nil) (.cons (.ret (.cmp .eq (.call 6 (.cons (.var 0) (.cons (.var 2) .nil))) (.call 6 (.cons (.var 0) (.cons (.var 3) .nil))))) .nil))))
def q_fits_exchange : FI := ⟨16, ["table", "value"], ["table", "value", "one", "other"], ⟨2, 4, false, b_fits_exchange⟩, []⟩
def b_is_exchange : CSs := (.cons (.exp (.call 4 (.cons (.var 0) .nil))) (.cons (.ret (.call 16 (.cons (.var 0) (.cons (.var 1) .nil)))) .nil))
def q_is_exchange : FI := ⟨17, ["table", "value"], ["table", "value"], ⟨2, 2, false, b_is_exchange⟩, []⟩
def b_need_exchange : CSs := (.cons (.exp (.call 4 (.cons (.var 0) .nil))) (.cons (.ife (.not (.call 16 (.cons (.var 0) (.cons (.var 1) .nil)))) (.cons (.rais 1 "not an exchange of the table") .nil) .nil) .nil))
def q_need_exchange : FI := ⟨18, ["table", "exchange"], ["table", "exchange"], ⟨2, 2, false, b_need_exchange⟩, []⟩
def b_brings : CSs := (.cons (.exp (.call 18 (.cons (.var 0) (.cons (.var 1) .nil)))) (.cons (.ret (.call 14 (.cons (.var 1) .nil))) .nil))
def q_brings : FI := ⟨19, ["table", "exchange"], ["table", "exchange"], ⟨2, 2, false, b_brings⟩, []⟩
def b_takes : CSs := (.cons (.exp (.call 18 (.cons (.var 0) (.cons (.var 1) .nil)))) (.cons (.ret (.call 15 (.cons (.var 1) .nil))) .nil))
def q_takes : FI := ⟨20, ["table", "exchange"], ["table", "exchange"], ⟨2, 2, false, b_takes⟩, []⟩
def b_has_of : CSs := (.cons (.ret (.bi .all (.cons (.comp [("many", 2), ("more", 3)] (.tp (.cons (.nm 2) (.cons (.nm 3) .nil))) (.zip (.var 0) (.var 1)) .nil (.or (.cmp .ge (.bin .add (.var 2) (.var 3)) (.lit (.int 0))) (.cmp .ge (.var 3) (.lit (.int 0))))) .nil))) .nil)
def q_has_of : FI := ⟨21, ["stock", "exchange"], ["stock", "exchange", "many", "more"], ⟨2, 4, false, b_has_of⟩, []⟩
def b_moved_by : CSs := (.cons (.ret (.bi .tuple (.cons (.comp [("many", 2), ("more", 3)] (.tp (.cons (.nm 2) (.cons (.nm 3) .nil))) (.zip (.var 0) (.var 1)) .nil (.bin .add (.var 2) (.var 3))) .nil))) .nil)
def q_moved_by : FI := ⟨22, ["stock", "exchange"], ["stock", "exchange", "many", "more"], ⟨2, 4, false, b_moved_by⟩, []⟩
def b_made_of : CSs := (.cons (.exp (.call 9 (.cons (.var 0) (.cons (.var 1) .nil)))) (.cons (.exp (.call 18 (.cons (.var 0) (.cons (.var 2) .nil)))) (.cons (.ife (.not (.call 21 (.cons (.var 1) (.cons (.var 2) .nil)))) (.cons (.rais 5 "it does not fit") .nil) .nil) (.cons (.ret (.call 22 (.cons (.var 1) (.cons (.var 2) .nil)))) .nil))))
def q_made_of : FI := ⟨23, ["table", "stock", "exchange"], ["table", "stock", "exchange"], ⟨3, 3, false, b_made_of⟩, []⟩
def b__law_cup : CSs := (.cons (.asg (.nm 1) (.bi .abs (.cons (.idx (.bin .add (.bi .list (.cons (.var 0) .nil)) (.lst (.cons (.lit (.int 0)) .nil))) (.lit (.int 0))) .nil))) (.cons (.ret (.lst (.cons (.ite (.cmp .ge (.var 1) (.bin .pow (.lit (.int 10)) (.lit (.int 18)))) (.bin .fdiv (.var 1) (.lit (.int 1121))) (.lit (.int 0))) (.cons (.bin .add (.bin .mod (.bi .int (.cons (.bin .add (.bin .mul (.var 1) (.lit (.int 2629))) (.lit (.int 8169))) .nil)) (.lit (.int 1998244343))) (.lit (.int 552))) .nil)))) .nil))
def q__law_cup : FI := ⟨24, ["script"], ["script", "cell"], ⟨1, 2, true, b__law_cup⟩, []⟩
def b__law_roll : CSs := (.cons (.ife (.cmp .gt (.idx (.var 0) (.lit (.int 0))) (.lit (.int 0))) (.cons (.asg (.nm 3) (.bin .mod (.bi .int (.cons (.idx (.var 0) (.lit (.int 0))) .nil)) (.var 1))) (.cons (.asg (.sub (.var 0) (.lit (.int 0))) (.bin .fdiv (.idx (.var 0) (.lit (.int 0))) (.var 1))) (.cons (.ret (.var 3)) .nil))) .nil) (.cons (.asg (.sub (.var 0) (.lit (.int 1))) (.bin .mod (.bi .int (.cons (.bin .add (.bin .mul (.idx (.var 0) (.lit (.int 1))) (.lit (.int 41047))) (.lit (.int 10111))) .nil)) (.lit (.int 2147483549)))) (.cons (.asg (.nm 2) (.bin .mod (.bi .int (.cons (.bin .mul (.idx (.var 0) (.lit (.int 1))) (.bin .add (.idx (.var 0) (.lit (.int 1))) (.lit (.int 401)))) .nil)) (.lit (.int 2147483489)))) (.cons (.ret (.bin .mod (.bi .int (.cons (.bin .fdiv (.var 2) (.lit (.int 983))) .nil)) (.var 1))) .nil))))
def q__law_roll : FI := ⟨25, ["cup", "many"], ["cup", "many", "deep", "found"], ⟨2, 4, false, b__law_roll⟩, []⟩
def b__law_some : CSs := (.cons (.ret (.idx (.var 1) (.call 25 (.cons (.var 0) (.cons (.bi .len (.cons (.var 1) .nil)) .nil))))) .nil)
def q__law_some : FI := ⟨26, ["cup", "things"], ["cup", "things"], ⟨2, 2, false, b__law_some⟩, []⟩
def b__law_like : CSs := (.cons (.ife (.or (.isi (.var 0) .bool) (.isi (.var 1) .bool)) (.cons (.ret (.and (.isi (.var 0) .bool) (.and (.isi (.var 1) .bool) (.cmp .eq (.var 0) (.var 1))))) .nil) .nil) (.cons (.ife (.or (.isi (.var 1) .tuple) (.isi (.var 1) .list)) (.cons (.ife (.not (.or (.and (.isi (.var 0) .tuple) (.isi (.var 1) .tuple)) (.and (.isi (.var 0) .list) (.isi (.var 1) .list)))) (.cons (.ret (.lit (.bl false))) .nil) .nil) (.cons (.ret (.and (.cmp .eq (.bi .len (.cons (.var 0) .nil)) (.bi .len (.cons (.var 1) .nil))) (.cmp .eq (.comp [("own", 2), ("part", 3)] (.tp (.cons (.nm 2) (.cons (.nm 3) .nil))) (.zip (.var 0) (.var 1)) (.cons (.not (.call 27 (.cons (.var 2) (.cons (.var 3) .nil)))) .nil) (.lit (.int 1))) (.lst .nil)))) .nil)) .nil) (.cons (.ret (.cmp .eq (.var 0) (.var 1))) .nil)))
def q__law_like : FI := ⟨27, ["one", "other"], ["one", "other", "own", "part"], ⟨2, 4, false, b__law_like⟩, []⟩
def b__law_table : CSs := (.cons (.ife (.cmp .eq (.call 25 (.cons (.var 0) (.cons (.lit (.int 2)) .nil))) (.lit (.int 0))) (.cons (.ret (.tup (.cons (.bi .tuple (.cons (.comp [("ware", 2)] (.nm 2) (.range (.cons (.bin .add (.lit (.int 2)) (.call 25 (.cons (.var 0) (.cons (.lit (.int 2)) .nil)))) .nil)) .nil (.bin .add (.lit (.int 1)) (.call 25 (.cons (.var 0) (.cons (.lit (.int 6)) .nil))))) .nil)) .nil))) .nil) .nil) (.cons (.asg (.nm 1) (.bin .add (.lit (.int 3)) (.call 25 (.cons (.var 0) (.cons (.lit (.int 2)) .nil))))) (.cons (.ret (.tup (.cons (.bin .mul (.tup (.cons (.lit (.int 1)) .nil)) (.var 1)) (.cons (.bi .tuple (.cons (.comp [("ware", 2)] (.nm 2) (.range (.cons (.var 1) .nil)) .nil (.call 25 (.cons (.var 0) (.cons (.lit (.int 5)) .nil)))) .nil)) .nil)))) .nil)))
def q__law_table : FI := ⟨28, ["cup"], ["cup", "wares", "ware"], ⟨1, 3, false, b__law_table⟩, []⟩
def b__law_add : CSs := (.cons (.ret (.bi .tuple (.cons (.comp [("many", 2), ("more", 3)] (.tp (.cons (.nm 2) (.cons (.nm 3) .nil))) (.zip (.var 0) (.var 1)) .nil (.bin .add (.var 2) (.var 3))) .nil))) .nil)
def q__law_add : FI := ⟨29, ["one", "other"], ["one", "other", "many", "more"], ⟨2, 4, false, b__law_add⟩, []⟩
def b__law_times : CSs := (.cons (.ret (.bi .tuple (.cons (.comp [("one", 2)] (.nm 2) (.of (.var 1)) .nil (.bin .mul (.var 0) (.var 2))) .nil))) .nil)
def q__law_times : FI := ⟨30, ["many", "row"], ["many", "row", "one"], ⟨2, 3, false, b__law_times⟩, []⟩
def b__law_first : CSs := (.cons (.ret (.bi .sum (.cons (.comp [("each", 2), ("many", 3)] (.tp (.cons (.nm 2) (.cons (.nm 3) .nil))) (.zip (.idx (.var 0) (.lit (.int 0))) (.var 1)) .nil (.bin .mul (.var 2) (.var 3))) .nil))) .nil)
def q__law_first : FI := ⟨31, ["table", "stock"], ["table", "stock", "each", "many"], ⟨2, 4, false, b__law_first⟩, []⟩
def b__law_stock : CSs := (.cons (.asg (.tp (.cons (.nm 3) (.cons (.nm 4) .nil))) (.tup (.cons (.ite (.cmp .eq (.bi .len (.cons (.var 1) .nil)) (.lit (.int 1))) (.lit (.int 36)) (.lit (.int 8))) (.cons (.thaw (.lst .nil)) .nil)))) (.cons (.for_ (.nm 2) (.of (.idx (.var 1) (.lit (.int 0)))) (.cons (.app (.var 4) (.call 25 (.cons (.var 0) (.cons (.bin .add (.bin .fdiv (.var 3) (.var 2)) (.lit (.int 1))) .nil)))) (.cons (.asg (.nm 3) (.bin .sub (.var 3) (.bin .mul (.idx (.var 4) (.neg (.lit (.int 1)))) (.var 2)))) .nil))) (.cons (.ret (.bi .tuple (.cons (.var 4) .nil))) .nil)))
def q__law_stock : FI := ⟨32, ["cup", "table"], ["cup", "table", "each", "left", "stock"], ⟨2, 5, false, b__law_stock⟩, []⟩
def b__law_right : CSs := (.cons (.asg (.nm 2) (.ite (.cmp .eq (.bi .len (.cons (.var 1) .nil)) (.lit (.int 1))) (.lit (.int 36)) (.lit (.int 8)))) (.cons (.asg (.nm 3) (.call 13 (.cons (.var 1) (.cons (.call 10 (.cons (.var 1) (.cons (.call 32 (.cons (.var 0) (.cons (.var 1) .nil))) .nil))) .nil)))) (.cons (.asg (.tp (.cons (.nm 10) (.cons (.nm 11) (.cons (.nm 12) .nil)))) (.comp [("turn", 18)] (.nm 18) (.range (.cons (.lit (.int 3)) .nil)) .nil (.call 26 (.cons (.var 0) (.cons (.var 3) .nil))))) (.cons (.asg (.tp (.cons (.nm 13) (.cons (.nm 14) .nil))) (.tup (.cons (.call 29 (.cons (.var 11) (.cons (.call 30 (.cons (.neg (.lit (.int 1))) (.cons (.var 10) .nil))) .nil))) (.cons (.call 29 (.cons (.var 10) (.cons (.call 30 (.cons (.neg (.lit (.int 1))) (.cons (.var 11) .nil))) .nil))) .nil)))) (.cons (.asg (.nm 4) (.tup (.cons (.call 17 (.cons (.var 1) (.cons (.var 13) .nil))) (.cons (.call 23 (.cons (.var 1) (.cons (.var 10) (.cons (.var 13) .nil)))) (.cons (.call 23 (.cons (.var 1) (.cons (.var 11) (.cons (.var 14) .nil)))) (.cons (.call 19 (.cons (.var 1) (.cons (.var 13) .nil))) (.cons (.call 20 (.cons (.var 1) (.cons (.var 13) .nil))) .nil))))))) (.cons (.asg (.tp (.cons (.nm 15) (.cons (.nm 16) .nil))) (.tup (.cons (.bi .tuple (.cons (.comp [("many", 6)] (.nm 6) (.of (.var 13)) .nil (.bi .max (.cons (.var 6) (.cons (.lit (.int 0)) .nil)))) .nil)) (.cons (.bi .tuple (.cons (.comp [("many", 6)] (.nm 6) (.of (.var 14)) .nil (.bi .max (.cons (.var 6) (.cons (.lit (.int 0)) .nil)))) .nil)) .nil)))) (.cons (.ife (.or (.not (.call 27 (.cons (.var 4) (.cons (.tup (.cons (.lit (.bl true)) (.cons (.var 11) (.cons (.var 10) (.cons (.var 15) (.cons (.var 16) .nil)))))) .nil)))) (.not (.call 27 (.cons (.tup (.cons (.call 19 (.cons (.var 1) (.cons (.var 14) .nil))) (.cons (.call 20 (.cons (.var 1) (.cons (.var 14) .nil))) .nil))) (.cons (.tup (.cons (.var 16) (.cons (.var 15) .nil))) .nil))))) (.cons (.ret (.lit (.bl false))) .nil) .nil) (.cons (.asg (.nm 5) (.call 29 (.cons (.var 13) (.cons (.call 29 (.cons (.var 12) (.cons (.call 30 (.cons (.neg (.lit (.int 1))) (.cons (.var 11) .nil))) .nil))) .nil)))) (.cons (.ife (.not (.call 27 (.cons (.tup (.cons (.call 17 (.cons (.var 1) (.cons (.var 5) .nil))) (.cons (.call 23 (.cons (.var 1) (.cons (.var 10) (.cons (.var 5) .nil)))) .nil))) (.cons (.tup (.cons (.lit (.bl true)) (.cons (.var 12) .nil))) .nil)))) (.cons (.ret (.lit (.bl false))) .nil) .nil) (.cons (.for_ (.nm 6) (.of (.tup (.cons (.lit (.int 2)) (.cons (.lit (.int 3)) (.cons (.lit (.int 5)) .nil))))) (.cons (.asg (.nm 17) (.cmp .le (.bin .mul (.var 6) (.call 31 (.cons (.var 1) (.cons (.var 16) .nil)))) (.var 2))) (.cons (.ife (.not (.call 27 (.cons (.call 17 (.cons (.var 1) (.cons (.call 30 (.cons (.var 6) (.cons (.var 13) .nil))) .nil))) (.cons (.var 17) .nil)))) (.cons (.ret (.lit (.bl false))) .nil) .nil) .nil))) (.cons (.ife (.cmp .eq (.call 31 (.cons (.var 1) (.cons (.var 16) .nil))) (.lit (.int 0))) (.cons (.ret (.lit (.bl true))) .nil) .nil) (.cons (.asg (.nm 7) (.call 26 (.cons (.var 0) (.cons (.comp [("ware", 19)] (.nm 19) (.range (.cons (.bi .len (.cons (.var 16) .nil)) .nil)) (.cons (.cmp .gt (.idx (.var 16) (.var 19)) (.lit (.int 0))) .nil) (.var 19)) .nil)))) (.cons (.asg (.nm 8) (.bin .add (.bin .add (.slc (.var 16) .nil (.cons (.var 7) .nil)) (.tup (.cons (.bin .sub (.idx (.var 16) (.var 7)) (.lit (.int 1))) .nil))) (.slc (.var 16) (.cons (.bin .add (.var 7) (.lit (.int 1))) .nil) .nil))) (.cons (.asg (.nm 9) (.bi .tuple (.cons (.comp [("many", 6)] (.nm 6) (.of (.var 16)) .nil (.bin .add (.var 6) (.lit (.int 1)))) .nil))) (.cons (.ife (.tryL (.bl true) [(5, (.bl false))] (.call 23 (.cons (.var 1) (.cons (.var 8) (.cons (.var 13) .nil))))) (.cons (.ret (.lit (.bl false))) .nil) .nil) (.cons (.ife (.and (.cmp .is_ (.call 8 (.cons (.var 1) (.cons (.var 9) .nil))) (.lit (.bl true))) (.not (.call 27 (.cons (.call 23 (.cons (.var 1) (.cons (.var 9) (.cons (.var 13) .nil)))) (.cons (.call 29 (.cons (.var 9) (.cons (.var 13) .nil))) .nil))))) (.cons (.ret (.lit (.bl false))) .nil) .nil) (.cons (.ret (.call 27 (.cons (.call 17 (.cons (.var 1) (.cons (.bin .add (.bin .add (.slc (.var 13) .nil (.cons (.var 7) .nil)) (.tup (.cons (.bin .sub (.idx (.var 13) (.var 7)) (.lit (.int 1))) .nil))) (.slc (.var 13) (.cons (.bin .add (.var 7) (.lit (.int 1))) .nil) .nil)) .nil))) (.cons (.lit (.bl false)) .nil)))) .nil)))))))))))))))))
def q__law_right : FI := ⟨34, ["cup", "table"], ["cup", "table", "most", "stocks", "told", "both", "many", "at", "poor", "rich", "one", "other", "third", "row", "back", "plus", "less", "due", "turn", "ware"], ⟨2, 20, false, b__law_right⟩, []⟩
def b_law : CSs := (.cons (.asg (.tp (.cons (.nm 4) (.cons (.nm 5) .nil))) (.tup (.cons (.tup (.cons (.tup (.cons (.lit (.int 1)) (.cons (.lit (.int 2)) .nil))) .nil)) (.cons (.tup (.cons (.tup (.cons (.lit (.int 6)) (.cons (.lit (.int 5)) .nil))) .nil)) .nil)))) (.cons (.asg (.nm 1) (.bin .add (.comp [("many", 6)] (.nm 6) (.of (.tup (.cons (.lit (.int 18)) (.cons (.lit (.int 19)) .nil)))) .nil (.call 17 (.cons (.var 4) (.cons (.tup (.cons (.bin .mul (.lit (.int 2)) (.var 6)) (.cons (.neg (.var 6)) .nil))) .nil)))) (.comp [("row", 7)] (.nm 7) (.of (.tup (.cons (.tup (.cons (.lit (.int 5)) (.cons (.neg (.lit (.int 6))) .nil))) (.cons (.tup (.cons (.lit (.int 10)) (.cons (.neg (.lit (.int 12))) .nil))) (.cons (.tup (.cons (.neg (.lit (.int 5))) (.cons (.lit (.int 6)) .nil))) .nil))))) .nil (.call 17 (.cons (.var 5) (.cons (.var 7) .nil)))))) (.cons (.ife (.cmp .ne (.var 1) (.lst (.cons (.lit (.bl true)) (.cons (.lit (.bl false)) (.cons (.lit (.bl true)) (.cons (.lit (.bl false)) (.cons (.lit (.bl true)) .nil))))))) (.cons (.ret (.lit (.bl false))) .nil) .nil) (.cons (.asg (.nm 2) (.tup (.cons (.tup (.cons (.lit (.int 1)) (.cons (.lit (.int 1)) (.cons (.lit (.int 1)) (.cons (.lit (.int 1)) .nil))))) (.cons (.tup (.cons (.lit (.int 0)) (.cons (.lit (.int 1)) (.cons (.lit (.int 2)) (.cons (.lit (.int 3)) .nil))))) .nil)))) (.cons (.ife (.cmp .ne (.comp [("row", 7)] (.nm 7) (.of (.tup (.cons (.tup (.cons (.lit (.int 4)) (.cons (.neg (.lit (.int 4))) (.cons (.neg (.lit (.int 4))) (.cons (.lit (.int 4)) .nil))))) (.cons (.tup (.cons (.lit (.int 5)) (.cons (.neg (.lit (.int 5))) (.cons (.neg (.lit (.int 5))) (.cons (.lit (.int 5)) .nil))))) (.cons (.tup (.cons (.lit (.int 2)) (.cons (.lit (.int 0)) (.cons (.neg (.lit (.int 6))) (.cons (.lit (.int 4)) .nil))))) (.cons (.tup (.cons (.lit (.int 8)) (.cons (.neg (.lit (.int 8))) (.cons (.lit (.int 0)) (.cons (.lit (.int 0)) .nil))))) .nil)))))) .nil (.call 17 (.cons (.var 2) (.cons (.var 7) .nil)))) (.lst (.cons (.lit (.bl true)) (.cons (.lit (.bl false)) (.cons (.lit (.bl true)) (.cons (.lit (.bl false)) .nil)))))) (.cons (.ret (.lit (.bl false))) .nil) .nil) (.cons (.asg (.nm 3) (.thaw (.call 24 (.cons (.var 0) .nil)))) (.cons (.ret (.cmp .eq (.comp [("turn", 8)] (.nm 8) (.range (.cons (.lit (.int 8)) .nil)) (.cons (.not (.call 33 (.cons (.var 3) (.cons (.call 28 (.cons (.var 3) .nil)) .nil)))) .nil) (.var 8)) (.lst .nil))) .nil)))))))
def q_law : FI := ⟨35, ["script"], ["script", "told", "wide", "cup", "two", "six", "many", "row", "turn"], ⟨1, 9, false, b_law⟩, []⟩
def fis : List FI := [q_is_whole, q_is_tuple_of, q_are_wholes, q_is_table, q_need_table, q_most_of, q_totals_of_piles, q_fits_stock, q_is_stock, q_need_stock, q_totals_of, q_yard_of, q_need_totals, q_yard, q_brings_of, q_takes_of, q_fits_exchange, q_is_exchange, q_need_exchange, q_brings, q_takes, q_has_of, q_moved_by, q_made_of, q__law_cup, q__law_roll, q__law_some, q__law_like, q__law_table, q__law_add, q__law_times, q__law_first, q__law_stock, q__law_right, q_law]
def l__law_fits : LI := ⟨33, "_law_fits", "call", ["call"], (.bl true), [(5, (.bl false))]⟩
def lis : List LI := [l__law_fits]
def fns0 : List PySem.Str := ["is_whole", "is_tuple_of", "are_wholes", "is_table", "need_table", "most_of", "totals_of_piles", "fits_stock", "is_stock", "need_stock", "totals_of", "yard_of", "need_totals", "yard", "brings_of", "takes_of", "fits_exchange", "is_exchange", "need_exchange", "brings", "takes", "has_of", "moved_by", "made_of", "_law_cup"]
def fns1 : List PySem.Str := ["_law_roll", "_law_some", "_law_like", "_law_table", "_law_add", "_law_times", "_law_first", "_law_stock", "_law_right", "law"]
def gc : GC := ⟨fns0 ++ fns1, fis.map fun q => q.fd.fr, fis.map fun q => q.dfl, [("MARKS", (.int 4)), ("HEAVY", (.int 36)), ("MANY", (.int 8))], ["abs", "all", "bool", "enumerate", "int", "isinstance", "len", "list", "max", "range", "sum", "tuple", "zip"], mods, excs, lis.map fun q => (q.x, q.d, q.tb), tabDefs⟩
theorem ba_is_whole : BindQ (fn.getD 0 dD).params q_is_whole.ps q_is_whole.dfl.length := ⟨fun _ _ _ _ _ _ _ _ _ _ _ us hl => match us, hl with
  | [_, _, _], _ => rfl, fun z => nomatch z⟩
theorem ba_is_tuple_of : BindQ (fn.getD 1 dD).params q_is_tuple_of.ps q_is_tuple_of.dfl.length := ⟨fun _ _ _ _ _ _ _ _ _ _ _ us hl => match us, hl with
  | [_, _, _], _ => rfl, fun z => nomatch z⟩
theorem ba_are_wholes : BindQ (fn.getD 2 dD).params q_are_wholes.ps q_are_wholes.dfl.length := ⟨fun _ _ _ _ _ _ _ _ _ _ _ us hl => match us, hl with
  | [_, _, _, _], _ => rfl, fun z => nomatch z⟩
theorem ba_is_table : BindQ (fn.getD 3 dD).params q_is_table.ps q_is_table.dfl.length := ⟨fun _ _ _ _ _ _ _ _ _ _ _ us hl => match us, hl with
  | [_], _ => rfl, fun z => nomatch z⟩
theorem ba_need_table : BindQ (fn.getD 4 dD).params q_need_table.ps q_need_table.dfl.length := ⟨fun _ _ _ _ _ _ _ _ _ _ _ us hl => match us, hl with
  | [_], _ => rfl, fun z => nomatch z⟩
theorem ba_most_of : BindQ (fn.getD 5 dD).params q_most_of.ps q_most_of.dfl.length := ⟨fun _ _ _ _ _ _ _ _ _ _ _ us hl => match us, hl with
  | [_], _ => rfl, fun z => nomatch z⟩
theorem ba_totals_of_piles : BindQ (fn.getD 6 dD).params q_totals_of_piles.ps q_totals_of_piles.dfl.length := ⟨fun _ _ _ _ _ _ _ _ _ _ _ us hl => match us, hl with
  | [_, _], _ => rfl, fun z => nomatch z⟩
theorem ba_fits_stock : BindQ (fn.getD 7 dD).params q_fits_stock.ps q_fits_stock.dfl.length := ⟨fun _ _ _ _ _ _ _ _ _ _ _ us hl => match us, hl with
  | [_, _], _ => rfl, fun z => nomatch z⟩
theorem ba_is_stock : BindQ (fn.getD 8 dD).params q_is_stock.ps q_is_stock.dfl.length := ⟨fun _ _ _ _ _ _ _ _ _ _ _ us hl => match us, hl with
  | [_, _], _ => rfl, fun z => nomatch z⟩
theorem ba_need_stock : BindQ (fn.getD 9 dD).params q_need_stock.ps q_need_stock.dfl.length := ⟨fun _ _ _ _ _ _ _ _ _ _ _ us hl => match us, hl with
  | [_, _], _ => rfl, fun z => nomatch z⟩
theorem ba_totals_of : BindQ (fn.getD 10 dD).params q_totals_of.ps q_totals_of.dfl.length := ⟨fun _ _ _ _ _ _ _ _ _ _ _ us hl => match us, hl with
  | [_, _], _ => rfl, fun z => nomatch z⟩
theorem ba_yard_of : BindQ (fn.getD 11 dD).params q_yard_of.ps q_yard_of.dfl.length := ⟨fun _ _ _ _ _ _ _ _ _ _ _ us hl => match us, hl with
  | [_, _], _ => rfl, fun z => nomatch z⟩
theorem ba_need_totals : BindQ (fn.getD 12 dD).params q_need_totals.ps q_need_totals.dfl.length := ⟨fun _ _ _ _ _ _ _ _ _ _ _ us hl => match us, hl with
  | [_, _], _ => rfl, fun z => nomatch z⟩
theorem ba_yard : BindQ (fn.getD 13 dD).params q_yard.ps q_yard.dfl.length := ⟨fun _ _ _ _ _ _ _ _ _ _ _ us hl => match us, hl with
  | [_, _], _ => rfl, fun z => nomatch z⟩
theorem ba_brings_of : BindQ (fn.getD 14 dD).params q_brings_of.ps q_brings_of.dfl.length := ⟨fun _ _ _ _ _ _ _ _ _ _ _ us hl => match us, hl with
  | [_], _ => rfl, fun z => nomatch z⟩
theorem ba_takes_of : BindQ (fn.getD 15 dD).params q_takes_of.ps q_takes_of.dfl.length := ⟨fun _ _ _ _ _ _ _ _ _ _ _ us hl => match us, hl with
  | [_], _ => rfl, fun z => nomatch z⟩
theorem ba_fits_exchange : BindQ (fn.getD 16 dD).params q_fits_exchange.ps q_fits_exchange.dfl.length := ⟨fun _ _ _ _ _ _ _ _ _ _ _ us hl => match us, hl with
  | [_, _], _ => rfl, fun z => nomatch z⟩
theorem ba_is_exchange : BindQ (fn.getD 17 dD).params q_is_exchange.ps q_is_exchange.dfl.length := ⟨fun _ _ _ _ _ _ _ _ _ _ _ us hl => match us, hl with
  | [_, _], _ => rfl, fun z => nomatch z⟩
theorem ba_need_exchange : BindQ (fn.getD 18 dD).params q_need_exchange.ps q_need_exchange.dfl.length := ⟨fun _ _ _ _ _ _ _ _ _ _ _ us hl => match us, hl with
  | [_, _], _ => rfl, fun z => nomatch z⟩
theorem ba_brings : BindQ (fn.getD 19 dD).params q_brings.ps q_brings.dfl.length := ⟨fun _ _ _ _ _ _ _ _ _ _ _ us hl => match us, hl with
  | [_, _], _ => rfl, fun z => nomatch z⟩
theorem ba_takes : BindQ (fn.getD 20 dD).params q_takes.ps q_takes.dfl.length := ⟨fun _ _ _ _ _ _ _ _ _ _ _ us hl => match us, hl with
  | [_, _], _ => rfl, fun z => nomatch z⟩
theorem ba_has_of : BindQ (fn.getD 21 dD).params q_has_of.ps q_has_of.dfl.length := ⟨fun _ _ _ _ _ _ _ _ _ _ _ us hl => match us, hl with
  | [_, _], _ => rfl, fun z => nomatch z⟩
theorem ba_moved_by : BindQ (fn.getD 22 dD).params q_moved_by.ps q_moved_by.dfl.length := ⟨fun _ _ _ _ _ _ _ _ _ _ _ us hl => match us, hl with
  | [_, _], _ => rfl, fun z => nomatch z⟩
theorem ba_made_of : BindQ (fn.getD 23 dD).params q_made_of.ps q_made_of.dfl.length := ⟨fun _ _ _ _ _ _ _ _ _ _ _ us hl => match us, hl with
  | [_, _, _], _ => rfl, fun z => nomatch z⟩
theorem ba__law_cup : BindQ (fn.getD 24 dD).params q__law_cup.ps q__law_cup.dfl.length := ⟨fun _ _ _ _ _ _ _ _ _ _ _ us hl => match us, hl with
  | [_], _ => rfl, fun z => nomatch z⟩
theorem ba__law_roll : BindQ (fn.getD 25 dD).params q__law_roll.ps q__law_roll.dfl.length := ⟨fun _ _ _ _ _ _ _ _ _ _ _ us hl => match us, hl with
  | [_, _], _ => rfl, fun z => nomatch z⟩
theorem ba__law_some : BindQ (fn.getD 26 dD).params q__law_some.ps q__law_some.dfl.length := ⟨fun _ _ _ _ _ _ _ _ _ _ _ us hl => match us, hl with
  | [_, _], _ => rfl, fun z => nomatch z⟩
theorem ba__law_like : BindQ (fn.getD 27 dD).params q__law_like.ps q__law_like.dfl.length := ⟨fun _ _ _ _ _ _ _ _ _ _ _ us hl => match us, hl with
  | [_, _], _ => rfl, fun z => nomatch z⟩
theorem ba__law_table : BindQ (fn.getD 28 dD).params q__law_table.ps q__law_table.dfl.length := ⟨fun _ _ _ _ _ _ _ _ _ _ _ us hl => match us, hl with
  | [_], _ => rfl, fun z => nomatch z⟩
theorem ba__law_add : BindQ (fn.getD 29 dD).params q__law_add.ps q__law_add.dfl.length := ⟨fun _ _ _ _ _ _ _ _ _ _ _ us hl => match us, hl with
  | [_, _], _ => rfl, fun z => nomatch z⟩
theorem ba__law_times : BindQ (fn.getD 30 dD).params q__law_times.ps q__law_times.dfl.length := ⟨fun _ _ _ _ _ _ _ _ _ _ _ us hl => match us, hl with
  | [_, _], _ => rfl, fun z => nomatch z⟩
theorem ba__law_first : BindQ (fn.getD 31 dD).params q__law_first.ps q__law_first.dfl.length := ⟨fun _ _ _ _ _ _ _ _ _ _ _ us hl => match us, hl with
  | [_, _], _ => rfl, fun z => nomatch z⟩
theorem ba__law_stock : BindQ (fn.getD 32 dD).params q__law_stock.ps q__law_stock.dfl.length := ⟨fun _ _ _ _ _ _ _ _ _ _ _ us hl => match us, hl with
  | [_, _], _ => rfl, fun z => nomatch z⟩
theorem ba__law_right : BindQ (fn.getD 34 dD).params q__law_right.ps q__law_right.dfl.length := ⟨fun _ _ _ _ _ _ _ _ _ _ _ us hl => match us, hl with
  | [_, _], _ => rfl, fun z => nomatch z⟩
theorem ba_law : BindQ (fn.getD 35 dD).params q_law.ps q_law.dfl.length := ⟨fun _ _ _ _ _ _ _ _ _ _ _ us hl => match us, hl with
  | [_], _ => rfl, fun z => nomatch z⟩
theorem bl__law_fits : BindA (fn.getD 33 dD).params [l__law_fits.a] := fun _ _ _ _ _ _ _ _ _ _ us hl => match us, hl with
  | [_], _ => rfl
theorem ok_t : okAll gc fn fa fis lis zs tu = true := by kernel_rfl
theorem binds : ∀ q ∈ fis, ∀ d, fn[q.i]? = some d → BindQ d.params q.ps q.dfl.length := by
  intro q hq d hd
  have e : d = fn.getD q.i dD := by rw [List.getD_eq_getElem?_getD, hd]; rfl
  subst e
  simp only [fis, List.mem_cons, List.not_mem_nil, or_false] at hq
  rcases hq with rfl | rfl | rfl | rfl | rfl | rfl | rfl | rfl | rfl | rfl | rfl | rfl | rfl | rfl | rfl | rfl | rfl | rfl | rfl | rfl | rfl | rfl | rfl | rfl | rfl | rfl | rfl | rfl | rfl | rfl | rfl | rfl | rfl | rfl | rfl
  · exact ba_is_whole
  · exact ba_is_tuple_of
  · exact ba_are_wholes
  · exact ba_is_table
  · exact ba_need_table
  · exact ba_most_of
  · exact ba_totals_of_piles
  · exact ba_fits_stock
  · exact ba_is_stock
  · exact ba_need_stock
  · exact ba_totals_of
  · exact ba_yard_of
  · exact ba_need_totals
  · exact ba_yard
  · exact ba_brings_of
  · exact ba_takes_of
  · exact ba_fits_exchange
  · exact ba_is_exchange
  · exact ba_need_exchange
  · exact ba_brings
  · exact ba_takes
  · exact ba_has_of
  · exact ba_moved_by
  · exact ba_made_of
  · exact ba__law_cup
  · exact ba__law_roll
  · exact ba__law_some
  · exact ba__law_like
  · exact ba__law_table
  · exact ba__law_add
  · exact ba__law_times
  · exact ba__law_first
  · exact ba__law_stock
  · exact ba__law_right
  · exact ba_law
theorem bindl : ∀ q ∈ lis, ∀ d, fn[q.i]? = some d → BindA d.params [q.a] := by
  intro q hq d hd
  have e : d = fn.getD q.i dD := by rw [List.getD_eq_getElem?_getD, hd]; rfl
  subst e
  simp only [lis, List.mem_cons, List.not_mem_nil, or_false] at hq
  rcases hq with rfl
  · exact bl__law_fits
end LawTop
end
section
set_option maxRecDepth 100000
set_option maxHeartbeats 0
open PySem PySem.W PySem.Calls PyProof.Rows
theorem claim_of (hrun : ∀ ns : List Int, ns.length ≤ 63 → ∃ s', Pv.callN (LawTop.fis.map Pv.FI.fd) 40 34 [.lst (ns.map Pv.D.int)] [] = .ok (.bl true) s') : PySem.Challenge.rw_blendhouse_k52_exchanges_added_and_doubl.Holds := by
  w_on; o_law
  refine HandSHeadRun.head_any (r := OpenLaw.row PySem.Challenge.rw_blendhouse_k52_exchanges_added_and_doubl) (q := view (OpenLaw.row PySem.Challenge.rw_blendhouse_k52_exchanges_added_and_doubl).prog [48]) (H := LawTop.hk) (ob := LawTop.ob) (M := 12000) (loose := LawTop.loose) (d := HandSHeadRun.topDef (OpenLaw.row PySem.Challenge.rw_blendhouse_k52_exchanges_added_and_doubl).prog 48) (kwd := []) LawTop.ob_eq
    (by kernel_rfl) (fun s => by kernel_rfl) LawTop.run (by kernel_rfl) (by kernel_rfl) (by kernel_rfl) (by rfl) (by first | assumption | decide +kernel) (by decide +kernel) ⟨rfl, rfl, rfl, rfl, rfl, by decide +kernel⟩ ?hw ?hc
  case hw => w_witness2
  case hc =>
    refine LamX.walk_ofTsE (l := PySem.Challenge.rw_blendhouse_k52_exchanges_added_and_doubl) (n := 63) (k := 3 * 40) (x := "script") (CX := fun w => L2.CX (PySem.Challenge.rw_blendhouse_k52_exchanges_added_and_doubl).prog w) rfl (by decide) (by kernel_rfl) ⟨rfl, by decide, by decide⟩ ?F (fun w => Pv.cx_end _ w)
    intro w mg fa h Y G hmg0
    obtain ⟨K, KX, c⟩ := Y
    have hmg : mg ("law" : PySem.Str) = some (.ref fa) := by
      have e : (HandSHeadRun.topDef (OpenLaw.row PySem.Challenge.rw_blendhouse_k52_exchanges_added_and_doubl).prog 48).name = ("law" : PySem.Str) := by kernel_rfl
      rw [← e]
      exact hmg0
    exact ⟨K, KX, Pv.law_of KX c G LawTop.ok_t LawTop.binds LawTop.bindl (li := 34) (x := "law") rfl hmg rfl rfl hrun⟩
end
section
namespace K52
abbrev Vc := List Int
def dot (r s : Vc) : Int := ((r.zip s).map fun p => p.1 * p.2).sum
def add (a b : Vc) : Vc := (a.zip b).map fun p => p.1 + p.2
def tms (k : Int) (a : Vc) : Vc := a.map fun x => k * x
def pz (x : Int) : Int := if x < 0 then 0 else x
def pl (a : Vc) : Vc := a.map pz
def ng (a : Vc) : Vc := a.map fun x => pz (-x)
def dots (rows : List Vc) (s : Vc) : Vc := rows.map fun r => dot r s
@[simp] theorem dot_nil (s : Vc) : dot [] s = 0 := rfl
@[simp] theorem dot_nil2 (r : Vc) : dot r [] = 0 := by cases r <;> rfl
@[simp] theorem dot_cons (a b : Int) (r s : Vc) : dot (a :: r) (b :: s) = a * b + dot r s := by simp [dot]
@[simp] theorem add_cons (a b : Int) (r s : Vc) : add (a :: r) (b :: s) = (a + b) :: add r s := rfl
@[simp] theorem add_nil (s : Vc) : add [] s = [] := rfl
@[simp] theorem add_nil2 (r : Vc) : add r [] = [] := by cases r <;> rfl
@[simp] theorem tms_nil (k : Int) : tms k [] = [] := rfl
@[simp] theorem tms_cons (k a : Int) (r : Vc) : tms k (a :: r) = (k * a) :: tms k r := rfl
@[simp] theorem pl_nil : pl [] = [] := rfl
@[simp] theorem pl_cons (a : Int) (r : Vc) : pl (a :: r) = pz a :: pl r := rfl
@[simp] theorem ng_nil : ng [] = [] := rfl
@[simp] theorem ng_cons (a : Int) (r : Vc) : ng (a :: r) = pz (-a) :: ng r := rfl
theorem len_add (a b : Vc) : (add a b).length = min a.length b.length := by simp [add]
theorem len_tms (k : Int) (a : Vc) : (tms k a).length = a.length := by simp [tms]
theorem len_pl (a : Vc) : (pl a).length = a.length := by simp [pl]
theorem len_ng (a : Vc) : (ng a).length = a.length := by simp [ng]
theorem dot_add : ∀ (r a b : Vc), a.length = b.length → dot r (add a b) = dot r a + dot r b
  | [], _, _, _ => by simp
  | x :: r, [], [], _ => by simp
  | x :: r, a :: as, b :: bs, h => by
    have ih := dot_add r as bs (by simpa using h)
    simp only [add_cons, dot_cons, ih, Int.mul_add]
    omega
  | _ :: _, [], _ :: _, h => by simp at h
  | _ :: _, _ :: _, [], h => by simp at h
theorem dot_tms : ∀ (r a : Vc) (k : Int), dot r (tms k a) = k * dot r a
  | [], _, _ => by simp
  | x :: r, [], _ => by simp
  | x :: r, a :: as, k => by
    simp only [tms_cons, dot_cons, dot_tms r as k, Int.mul_add, Int.mul_left_comm]
theorem pz_sub (x : Int) : pz x - pz (-x) = x := by unfold pz; split <;> split <;> omega
theorem pz_nn (x : Int) : 0 ≤ pz x := by unfold pz; split <;> omega
theorem dot_pn : ∀ (r a : Vc), dot r (pl a) - dot r (ng a) = dot r a
  | [], _ => by simp
  | x :: r, [] => by simp
  | x :: r, a :: as => by
    have ih := dot_pn r as
    have e : x * a = x * pz a - x * pz (-a) := by rw [← Int.mul_sub, pz_sub]
    simp only [pl_cons, ng_cons, dot_cons]
    omega
theorem dot_nn : ∀ (r a : Vc), (∀ v ∈ r, 0 ≤ v) → (∀ v ∈ a, 0 ≤ v) → 0 ≤ dot r a
  | [], _, _, _ => by simp
  | x :: r, [], _, _ => by simp
  | x :: r, a :: as, h, g => by
    have ih := dot_nn r as (fun v hv => h v (by simp [hv])) (fun v hv => g v (by simp [hv]))
    have := Int.mul_nonneg (h x (by simp)) (g a (by simp))
    simp only [dot_cons]
    omega
/-- a number is at most the weighed sum -/
theorem le_dot : ∀ (r a : Vc), (∀ v ∈ r, 1 ≤ v) → (∀ v ∈ a, 0 ≤ v) → a.length ≤ r.length → ∀ v ∈ a, v ≤ dot r a
  | _, [], _, _, _, v, hv => by cases hv
  | [], _ :: _, _, _, h, _, _ => by simp at h
  | x :: r, a :: as, h, g, hl, v, hv => by
    have ih := le_dot r as (fun v hv => h v (by simp [hv])) (fun v hv => g v (by simp [hv])) (by simpa using hl)
    have p := dot_nn r as (fun v hv => by have := h v (by simp [hv]); omega) (fun v hv => g v (by simp [hv]))
    have hx := h x (by simp)
    have ha := g a (by simp)
    have q : a ≤ x * a := by
      have := Int.mul_le_mul_of_nonneg_right hx ha
      simpa using this
    simp only [dot_cons]
    rcases List.mem_cons.mp hv with e | e
    · subst e; omega
    · have := ih v e; omega
/-- componentwise -/
def le : Vc → Vc → Prop
  | [], [] => True
  | a :: r, b :: s => a ≤ b ∧ le r s
  | _, _ => False
theorem dot_le : ∀ (r a b : Vc), (∀ v ∈ r, 0 ≤ v) → le a b → dot r a ≤ dot r b
  | [], _, _, _, _ => by simp
  | x :: r, [], [], _, _ => by simp
  | x :: r, a :: as, b :: bs, h, g => by
    have ih := dot_le r as bs (fun v hv => h v (by simp [hv])) g.2
    have := Int.mul_le_mul_of_nonneg_left g.1 (h x (by simp))
    simp only [dot_cons]
    omega
  | _ :: _, [], _ :: _, _, g => g.elim
  | _ :: _, _ :: _, [], _, g => g.elim
abbrev sub (a b : Vc) : Vc := add a (tms (-1) b)
theorem pl_sub_le : ∀ (a b : Vc), a.length = b.length → (∀ v ∈ a, 0 ≤ v) → (∀ v ∈ b, 0 ≤ v) → le (pl (sub a b)) a
  | [], [], _, _, _ => trivial
  | a :: as, b :: bs, h, g, g2 => by
    have ih := pl_sub_le as bs (by simpa using h) (fun v hv => g v (by simp [hv])) (fun v hv => g2 v (by simp [hv]))
    have ha := g a (by simp)
    have hb := g2 b (by simp)
    refine ⟨?_, ih⟩
    show pz (a + -1 * b) ≤ a
    unfold pz
    split <;> omega
  | [], _ :: _, h, _, _ => by simp at h
  | _ :: _, [], h, _, _ => by simp at h
theorem ng_eq : ∀ (a b : Vc), a.length = b.length → ng (sub a b) = pl (sub b a)
  | [], [], _ => rfl
  | a :: as, b :: bs, h => by
    have ih := ng_eq as bs (by simpa using h)
    simp only [sub, tms_cons, add_cons, ng_cons, pl_cons] at ih ⊢
    rw [ih, show -(a + -1 * b) = b + -1 * a by omega]
  | [], _ :: _, h => by simp at h
  | _ :: _, [], h => by simp at h
theorem add_sub : ∀ (a b : Vc), a.length = b.length → add a (sub b a) = b
  | [], [], _ => rfl
  | a :: as, b :: bs, h => by
    have ih := add_sub as bs (by simpa using h)
    simp only [sub, tms_cons, add_cons] at ih ⊢
    rw [ih, show a + (b + -1 * a) = b by omega]
  | [], _ :: _, h => by simp at h
  | _ :: _, [], h => by simp at h
/-- two differences one behind the other -/
theorem sub_sub : ∀ (a b c : Vc), a.length = b.length → b.length = c.length → add (sub b a) (sub c b) = sub c a
  | [], [], [], _, _ => rfl
  | a :: as, b :: bs, c :: cs, h, g => by
    have ih := sub_sub as bs cs (by simpa using h) (by simpa using g)
    simp only [sub, tms_cons, add_cons] at ih ⊢
    rw [ih, show b + -1 * a + (c + -1 * b) = c + -1 * a by omega]
  | [], _ :: _, _, h, _ => by simp at h
  | _ :: _, [], _, h, _ => by simp at h
  | [], [], _ :: _, _, h => by simp at h
  | _ :: _, _ :: _, [], _, h => by simp at h
theorem pl_nn (a : Vc) : ∀ v ∈ pl a, 0 ≤ v := by
  intro v hv
  simp only [pl, List.mem_map] at hv
  obtain ⟨x, _, rfl⟩ := hv
  exact pz_nn x
theorem ng_nn (a : Vc) : ∀ v ∈ ng a, 0 ≤ v := by
  intro v hv
  simp only [ng, List.mem_map] at hv
  obtain ⟨x, _, rfl⟩ := hv
  exact pz_nn _
theorem pl_tms (k : Int) (h : 0 < k) (a : Vc) : pl (tms k a) = tms k (pl a) := by
  simp only [pl, tms, List.map_map]
  refine List.map_congr_left fun x _ => ?_
  show pz (k * x) = k * pz x
  unfold pz
  have : k * x < 0 ↔ x < 0 := by
    constructor
    · intro q
      rcases Int.lt_or_le x 0 with z | z
      · exact z
      · have := Int.mul_nonneg (Int.le_of_lt h) z; omega
    · intro q
      exact Int.mul_neg_of_pos_of_neg h q
  by_cases z : x < 0
  · rw [if_pos z, if_pos (this.mpr z)]; simp
  · rw [if_neg z, if_neg (fun q => z (this.mp q))]
theorem ng_tms (k : Int) (h : 0 < k) (a : Vc) : ng (tms k a) = tms k (ng a) := by
  have e : ∀ b : Vc, ng b = pl (tms (-1) b) := fun b => by
    simp only [ng, pl, tms, List.map_map]
    exact List.map_congr_left fun x _ => by show pz (-x) = pz (-1 * x); rw [show -1 * x = -x by omega]
  rw [e, e, ← pl_tms k h]
  congr 1
  simp only [tms, List.map_map]
  refine List.map_congr_left fun x _ => ?_
  show -1 * (k * x) = k * (-1 * x)
  rw [Int.mul_left_comm]
theorem dots_add (rows : List Vc) (a b : Vc) (h : a.length = b.length) : dots rows (add a b) = (rows.map fun r => dot r a + dot r b) := by
  unfold dots
  exact List.map_congr_left fun r _ => dot_add r a b h
end K52
end
section
set_option maxRecDepth 100000
set_option maxHeartbeats 1000000
namespace Pv
open PySem (Str)
/-! ### the evaluator, step by step -/
section
variable {α β : Type} {c : Cl} {e : En} {s : Sto}
@[simp] theorem bind_ok {a : α} {f : α → Sto → Out β} : (Out.ok a s).bind f = f a s := id rfl
@[simp] theorem lift_some {d : D} : lift (some d) s = .ok d s := id rfl
@[simp] theorem truth_bl {b : Bool} : truth (.bl b) s = .ok b s := id rfl
@[simp] theorem thenS_ok {a : α} {f : α → Sto → OutS} : thenS (Out.ok a s) e f = f a s := id rfl
@[simp] theorem toS_ok {e1 : En} : toS (.ok e1 s) e = .nx e1 s := id rfl
@[simp] theorem noExc_ok {a : α} : noExc (Out.ok a s) = .ok a s := id rfl
@[simp] theorem onLoc_loc {n : Nat} {f : Nat → Out α} : onLoc (.loc n) f = f n := id rfl
@[simp] theorem rd_int' {i : Int} : rd s (.int i) = .int i := id rfl
@[simp] theorem rd_bl' {b : Bool} : rd s (.bl b) = .bl b := id rfl
@[simp] theorem rd_non' : rd s .non = .non := id rfl
@[simp] theorem rd_tup' {xs : List D} : rd s (.tup xs) = .tup xs := id rfl
@[simp] theorem rd_lst' {xs : List D} : rd s (.lst xs) = .lst xs := id rfl
@[simp] theorem rd_loc' {n : Nat} : rd s (.loc n) = s.getD n .non := id rfl
@[simp] theorem gok_nil : gok s [] = true := id rfl
@[simp] theorem ev_lit {d : D} : evE c (.lit d) e s = .ok d s := by rw [evE]
@[simp] theorem ev_glo {x : Str} {d : D} : evE c (.glo x d) e s = .ok d s := by rw [evE]
@[simp] theorem ev_tup {es : CEs} : evE c (.tup es) e s = (evEs c es e s).bind fun xs s => .ok (.tup xs) s := by rw [evE]
@[simp] theorem ev_lst {es : CEs} : evE c (.lst es) e s = (evEs c es e s).bind fun xs s => .ok (.lst xs) s := by rw [evE]
@[simp] theorem ev_bin {o : Op} {a b : CE} : evE c (.bin o a b) e s = (evE c a e s).bind fun x s => (evE c b e s).bind fun y s => lift (binD o (rd s x) (rd s y)) s := by rw [evE]
@[simp] theorem ev_neg {a : CE} : evE c (.neg a) e s = (evE c a e s).bind fun x s => lift (negD x) s := by rw [evE]
@[simp] theorem ev_cmp {o : Cp} {a b : CE} : evE c (.cmp o a b) e s = (evE c a e s).bind fun x s => (evE c b e s).bind fun y s => lift (cmpD o (fz 0 s x) (fz 0 s y)) s := by rw [evE]
@[simp] theorem ev_chn {o p : Cp} {a b d : CE} : evE c (.chn o p a b d) e s = (evE c a e s).bind fun x s => (evE c b e s).bind fun y s => (lift (cmpD o (fz 0 s x) (fz 0 s y)) s).bind fun z s => (truth z s).bind fun k s =>
      if k = true then (evE c d e s).bind fun u s => lift (cmpD p (fz 0 s y) (fz 0 s u)) s else .ok (.bl false) s := by rw [evE]
@[simp] theorem ev_and {a b : CE} : evE c (.and a b) e s = (evE c a e s).bind fun x s => (truth x s).bind fun k s => if k = true then evE c b e s else .ok (.bl false) s := by rw [evE]
@[simp] theorem ev_or {a b : CE} : evE c (.or a b) e s = (evE c a e s).bind fun x s => (truth x s).bind fun k s => if k = true then .ok (.bl true) s else evE c b e s := by rw [evE]
@[simp] theorem ev_not {a : CE} : evE c (.not a) e s = (evE c a e s).bind fun x s => (truth x s).bind fun k s => .ok (.bl (!k)) s := by rw [evE]
@[simp] theorem ev_ite {t a b : CE} : evE c (.ite t a b) e s = (evE c t e s).bind fun x s => (truth x s).bind fun k s => if k = true then evE c a e s else evE c b e s := by rw [evE]
@[simp] theorem ev_idx {a i : CE} : evE c (.idx a i) e s = (evE c a e s).bind fun x s => (evE c i e s).bind fun y s => lift (idxD (rd s x) y) s := by rw [evE]
@[simp] theorem ev_slr {a : CE} : evE c (.slr a) e s = (evE c a e s).bind fun x s => lift (revD (rd s x)) s := by rw [evE]
@[simp] theorem ev_call {f : Nat} {es : CEs} : evE c (.call f es) e s = (evEs c es e s).bind fun xs s => c.fn f xs s := by rw [evE]
@[simp] theorem ev_callD {f : Nat} {es : CEs} {ds : List D} : evE c (.callD f es ds) e s = (evEs c es e s).bind fun xs s => c.fn f (xs ++ ds) s := by rw [evE]
@[simp] theorem ev_tryL {d : D} {tb : List (Nat × D)} {b : CE} : evE c (.tryL d tb b) e s = tryO d tb (evE c b e s) := by rw [evE]
@[simp] theorem try_ok {d x : D} {tb : List (Nat × D)} : tryO d tb (.ok x s) = .ok d s := id rfl
theorem try_exc {d r : D} {tb : List (Nat × D)} {k : Nat} (h : tb.lookup k = some r) : tryO d tb (.exc k .non s) = .ok r s := by simp only [tryO, h]
@[simp] theorem bind_exc {k : Nat} {v : D} {f : α → Sto → Out β} : (Out.exc k v s : Out α).bind f = .exc k v s := id rfl
@[simp] theorem thenS_exc {k : Nat} {v : D} {f : α → Sto → OutS} : thenS (Out.exc k v s : Out α) e f = .exc k v e s := id rfl
@[simp] theorem toS_exc {k : Nat} {v : D} : toS (.exc k v s) e = .exc k v e s := id rfl
@[simp] theorem ev_s_rais {k : Nat} {m : Str} : evS c (.rais k m) e s = .exc k .non e s := by rw [evS]
@[simp] theorem ev_bi {b : BI} {es : CEs} : evE c (.bi b es) e s = (evEs c es e s).bind fun xs s => lift (biD b (xs.map (rd s))) s := by rw [evE]
@[simp] theorem ev_isi {a : CE} {t : Ty} : evE c (.isi a t) e s = (evE c a e s).bind fun x s => lift ((isiD t (rd s x)).map .bl) s := by rw [evE]
@[simp] theorem ev_nil : evEs c .nil e s = .ok [] s := by rw [evEs]
@[simp] theorem ev_cons {a : CE} {r : CEs} : evEs c (.cons a r) e s = (evE c a e s).bind fun x s => (evEs c r e s).bind fun xs s => .ok (x :: xs) s := by rw [evEs]
theorem ev_var {i : Nat} {d : D} (h : e[i]? = some (some d)) : evE c (.var i) e s = .ok d s := by rw [evE, h]
@[simp] theorem ev_v0 {d : D} {r : En} : evE c (.var 0) (some d :: r) s = .ok d s := by rw [evE]; rfl
@[simp] theorem ev_v1 {d : D} {a : Option D} {r : En} : evE c (.var 1) (a :: some d :: r) s = .ok d s := by rw [evE]; rfl
@[simp] theorem ev_v2 {d : D} {a b : Option D} {r : En} : evE c (.var 2) (a :: b :: some d :: r) s = .ok d s := by rw [evE]; rfl
@[simp] theorem ev_v3 {d : D} {a0 a1 a2 : Option D} {r : En} : evE c (.var 3) (a0 :: a1 :: a2 :: some d :: r) s = .ok d s := by rw [evE]; rfl
@[simp] theorem ev_v4 {d : D} {a0 a1 a2 a3 : Option D} {r : En} : evE c (.var 4) (a0 :: a1 :: a2 :: a3 :: some d :: r) s = .ok d s := by rw [evE]; rfl
@[simp] theorem ev_v5 {d : D} {a0 a1 a2 a3 a4 : Option D} {r : En} : evE c (.var 5) (a0 :: a1 :: a2 :: a3 :: a4 :: some d :: r) s = .ok d s := by rw [evE]; rfl
@[simp] theorem ev_v6 {d : D} {a0 a1 a2 a3 a4 a5 : Option D} {r : En} : evE c (.var 6) (a0 :: a1 :: a2 :: a3 :: a4 :: a5 :: some d :: r) s = .ok d s := by rw [evE]; rfl
@[simp] theorem ev_v7 {d : D} {a0 a1 a2 a3 a4 a5 a6 : Option D} {r : En} : evE c (.var 7) (a0 :: a1 :: a2 :: a3 :: a4 :: a5 :: a6 :: some d :: r) s = .ok d s := by rw [evE]; rfl
@[simp] theorem ev_v8 {d : D} {a0 a1 a2 a3 a4 a5 a6 a7 : Option D} {r : En} : evE c (.var 8) (a0 :: a1 :: a2 :: a3 :: a4 :: a5 :: a6 :: a7 :: some d :: r) s = .ok d s := by rw [evE]; rfl
@[simp] theorem ev_v9 {d : D} {a0 a1 a2 a3 a4 a5 a6 a7 a8 : Option D} {r : En} : evE c (.var 9) (a0 :: a1 :: a2 :: a3 :: a4 :: a5 :: a6 :: a7 :: a8 :: some d :: r) s = .ok d s := by rw [evE]; rfl
@[simp] theorem ev_v10 {d : D} {a0 a1 a2 a3 a4 a5 a6 a7 a8 a9 : Option D} {r : En} : evE c (.var 10) (a0 :: a1 :: a2 :: a3 :: a4 :: a5 :: a6 :: a7 :: a8 :: a9 :: some d :: r) s = .ok d s := by rw [evE]; rfl
@[simp] theorem ev_v11 {d : D} {a0 a1 a2 a3 a4 a5 a6 a7 a8 a9 a10 : Option D} {r : En} : evE c (.var 11) (a0 :: a1 :: a2 :: a3 :: a4 :: a5 :: a6 :: a7 :: a8 :: a9 :: a10 :: some d :: r) s = .ok d s := by rw [evE]; rfl
@[simp] theorem ev_v12 {d : D} {a0 a1 a2 a3 a4 a5 a6 a7 a8 a9 a10 a11 : Option D} {r : En} : evE c (.var 12) (a0 :: a1 :: a2 :: a3 :: a4 :: a5 :: a6 :: a7 :: a8 :: a9 :: a10 :: a11 :: some d :: r) s = .ok d s := by rw [evE]; rfl
@[simp] theorem ev_if_nil : evIf c .nil e s = .ok true s := by rw [evIf]
@[simp] theorem ev_if_cons {a : CE} {r : CEs} : evIf c (.cons a r) e s = (evE c a e s).bind fun x s => (truth x s).bind fun k s => if k = true then evIf c r e s else .ok false s := by rw [evIf]
@[simp] theorem ev_t_nm {i : Nat} {d : D} : evT c (.nm i) d e s = .ok (e.set i (some d)) s := by rw [evT]
@[simp] theorem ev_t_tp {ts : Tgs} {xs : List D} : evT c (.tp ts) (.tup xs) e s = evTs c ts xs e s := by rw [evT]; rfl
@[simp] theorem ev_ts_nil : evTs c .nil [] e s = .ok e s := by rw [evTs]
@[simp] theorem ev_ts_cons {t : Tg} {r : Tgs} {d : D} {ds : List D} : evTs c (.cons t r) (d :: ds) e s = (evT c t d e s).bind fun e1 s => evTs c r ds e1 s := by rw [evTs]
@[simp] theorem ev_ss_nil : evSs c .nil e s = .nx e s := by rw [evSs]
@[simp] theorem ev_s_ret {a : CE} : evS c (.ret a) e s = thenS (evE c a e s) e fun d s1 => .ret d s1 := by rw [evS]
@[simp] theorem ev_s_exp {a : CE} : evS c (.exp a) e s = toS ((evE c a e s).bind fun _ s => .ok e s) e := by rw [evS]
@[simp] theorem ev_s_asg {t : Tg} {a : CE} : evS c (.asg t a) e s = toS ((evE c a e s).bind fun d s => evT c t d e s) e := by rw [evS]
@[simp] theorem ev_s_ife {t : CE} {a b : CSs} : evS c (.ife t a b) e s = thenS ((evE c t e s).bind truth) e fun k s1 => if k = true then evSs c a e s1 else evSs c b e s1 := by rw [evS]
def seqS (x : OutS) (f : En → Sto → OutS) : OutS :=
  match x with
  | .nx e s => f e s
  | x => x
@[simp] theorem seqS_nx {f : En → Sto → OutS} : seqS (.nx e s) f = f e s := id rfl
@[simp] theorem seqS_exc {k : Nat} {v : D} {f : En → Sto → OutS} : seqS (.exc k v e s) f = .exc k v e s := id rfl
@[simp] theorem seqS_ret {d : D} {f : En → Sto → OutS} : seqS (.ret d s) f = .ret d s := id rfl
@[simp] theorem ev_ss_cons {a : CS} {r : CSs} : evSs c (.cons a r) e s = seqS (evS c a e s) fun e s => evSs c r e s := by
  rw [evSs]
  cases evS c a e s <;> rfl
theorem ss_nx {a : CS} {r : CSs} {e1 : En} {s1 : Sto} (h : evS c a e s = .nx e1 s1) : evSs c (.cons a r) e s = evSs c r e1 s1 := by rw [evSs, h]
theorem ss_ret {a : CS} {r : CSs} {d : D} {s1 : Sto} (h : evS c a e s = .ret d s1) : evSs c (.cons a r) e s = .ret d s1 := by rw [evSs, h]
def liftO {γ : Type} (x : Option γ) (s : Sto) : Out γ :=
  match x with
  | some b => .ok b s
  | none => .bad
@[simp] theorem liftO_some {γ : Type} {x : γ} : liftO (some x) s = .ok x s := id rfl
@[simp] theorem ev_i_of {a : CE} : evI c (.of a) e s = (evE c a e s).bind fun x s => liftO (walkD s x) s := by
  rw [evI]
  congr
  funext x s
  cases walkD s x <;> rfl
@[simp] theorem ev_i_range {es : CEs} : evI c (.range es) e s = (evEs c es e s).bind fun xs s => liftO ((rngD xs).map fun l => (l, [])) s := by
  rw [evI]
  congr
  funext xs s
  cases rngD xs <;> rfl
@[simp] theorem walk_tup {xs : List D} : walkD s (.tup xs) = some (xs, []) := id rfl
@[simp] theorem walk_lst {xs : List D} : walkD s (.lst xs) = some (xs, []) := id rfl
end
/-! ### values without cells -/
mutual
theorem fzD_id {n : Nat} {g : Nat → D} : ∀ d : D, noloc d = true → fzD n g d = d
  | .non, _ => rfl
  | .bl _, _ => rfl
  | .int _, _ => rfl
  | .str _, _ => rfl
  | .tup xs, h => by simp only [noloc] at h; simp only [fzD]; rw [fzDs_id xs h]
  | .lst xs, h => by simp only [noloc] at h; simp only [fzD]; rw [fzDs_id xs h]
  | .set xs, h => by simp only [noloc] at h; simp only [fzD]; rw [fzDs_id xs h]
  | .dct ks vs, h => by simp only [noloc, Bool.and_eq_true] at h; simp only [fzD]; rw [fzDs_id ks h.1, fzDs_id vs h.2]
theorem fzDs_id {n : Nat} {g : Nat → D} : ∀ ds : List D, nolocs ds = true → fzDs n g ds = ds
  | [], _ => rfl
  | d :: r, h => by simp only [nolocs, Bool.and_eq_true] at h; simp only [fzDs]; rw [fzD_id d h.1, fzDs_id r h.2]
end
theorem fz_id {n : Nat} {s : Sto} {d : D} (h : noloc d = true) : fz n s d = d := fzD_id d h
@[simp] theorem fz_int {n : Nat} {s : Sto} {i : Int} : fz n s (.int i) = .int i := id rfl
@[simp] theorem fz_bl {n : Nat} {s : Sto} {b : Bool} : fz n s (.bl b) = .bl b := id rfl
@[simp] theorem fz_non {n : Nat} {s : Sto} : fz n s .non = .non := id rfl
theorem nolocs_iff {xs : List D} : nolocs xs = true ↔ ∀ d ∈ xs, noloc d = true := by
  induction xs with
  | nil => simp [nolocs]
  | cons d r ih => simp [nolocs, ih]
theorem plains_iff {k : Nat} {xs : List D} : plains k xs = true ↔ ∀ d ∈ xs, plain k d = true := by
  induction xs with
  | nil => simp [plains]
  | cons d r ih => simp [plains, ih]
mutual
def pint : Nat → D → Bool
  | _, .non => true
  | _, .int _ => true
  | k, .tup xs => match k with
    | 0 => false
    | k + 1 => pints k xs
  | k, .lst xs => match k with
    | 0 => false
    | k + 1 => pints k xs
  | _, _ => false
def pints : Nat → List D → Bool
  | _, [] => true
  | k, x :: r => pint k x && pints k r
end
theorem pints_iff {k : Nat} {xs : List D} : pints k xs = true ↔ ∀ d ∈ xs, pint k d = true := by
  induction xs with
  | nil => simp [pints]
  | cons d r ih => simp [pints, ih]
mutual
theorem pint_noloc : ∀ (k : Nat) (d : D), pint k d = true → noloc d = true
  | _, .non, _ => rfl
  | _, .int _, _ => rfl
  | k + 1, .tup xs, h => by simp only [pint] at h; simp only [noloc]; exact pints_nolocs k xs h
  | k + 1, .lst xs, h => by simp only [pint] at h; simp only [noloc]; exact pints_nolocs k xs h
  | 0, .tup xs, h => by simp [pint] at h
  | 0, .lst xs, h => by simp [pint] at h
  | _, .bl _, h => by simp [pint] at h
  | _, .str _, h => by simp [pint] at h
  | _, .set _, h => by simp [pint] at h
  | _, .dct _ _, h => by simp [pint] at h
  | _, .loc _, h => by simp [pint] at h
theorem pints_nolocs : ∀ (k : Nat) (ds : List D), pints k ds = true → nolocs ds = true
  | _, [], _ => rfl
  | k, d :: r, h => by simp only [pints, Bool.and_eq_true] at h; simp only [nolocs]; rw [pint_noloc k d h.1, pints_nolocs k r h.2]; rfl
end
mutual
theorem pint_plain : ∀ (k : Nat) (d : D), pint k d = true → plain k d = true
  | _, .non, _ => by simp [plain]
  | _, .int _, _ => by simp [plain]
  | k + 1, .tup xs, h => by simp only [pint] at h; simp only [plain]; exact pints_plains k xs h
  | k + 1, .lst xs, h => by simp only [pint] at h; simp only [plain]; exact pints_plains k xs h
  | 0, .tup xs, h => by simp [pint] at h
  | 0, .lst xs, h => by simp [pint] at h
  | _, .bl _, h => by simp [pint] at h
  | _, .str _, h => by simp [pint] at h
  | _, .set _, h => by simp [pint] at h
  | _, .dct _ _, h => by simp [pint] at h
  | _, .loc _, h => by simp [pint] at h
theorem pints_plains : ∀ (k : Nat) (ds : List D), pints k ds = true → plains k ds = true
  | _, [], _ => rfl
  | k, d :: r, h => by simp only [pints, Bool.and_eq_true] at h; simp only [plains]; rw [pint_plain k d h.1, pints_plains k r h.2]; rfl
end
mutual
theorem plain_le : ∀ {k m : Nat}, k ≤ m → ∀ d : D, plain k d = true → plain m d = true
  | _, _, _, .non, _ => by simp [plain]
  | _, _, _, .bl _, _ => by simp [plain]
  | _, _, _, .int _, _ => by simp [plain]
  | _, _, _, .str x, h => by simpa [plain] using h
  | k + 1, m + 1, hl, .tup xs, h => by simp only [plain] at h ⊢; exact plains_le (by omega) xs h
  | k + 1, m + 1, hl, .lst xs, h => by simp only [plain] at h ⊢; exact plains_le (by omega) xs h
  | 0, _, _, .tup xs, h => by simp [plain] at h
  | 0, _, _, .lst xs, h => by simp [plain] at h
  | k + 1, 0, hl, .tup xs, h => by omega
  | k + 1, 0, hl, .lst xs, h => by omega
  | _, _, _, .set _, h => by simp [plain] at h
  | _, _, _, .dct _ _, h => by simp [plain] at h
  | _, _, _, .loc _, h => by simp [plain] at h
theorem plains_le : ∀ {k m : Nat}, k ≤ m → ∀ ds : List D, plains k ds = true → plains m ds = true
  | _, _, _, [], _ => rfl
  | k, m, hl, d :: r, h => by simp only [plains, Bool.and_eq_true] at h ⊢; exact ⟨plain_le hl d h.1, plains_le hl r h.2⟩
end
mutual
theorem eqv_pint : ∀ (k m : Nat) (a b : D), pint k a = true → pint m b = true → (eqv a b = true ↔ a = b)
  | _, _, .non, b, h, g => by cases b <;> simp [eqv, pint] at *
  | _, _, .int i, b, h, g => by cases b <;> simp [eqv, pint] at *
  | k + 1, m + 1, .tup xs, .tup ys, h, g => by
    simp only [pint] at h g
    simp only [eqv, D.tup.injEq]
    exact eqvs_pints k m xs ys h g
  | k + 1, m + 1, .lst xs, .lst ys, h, g => by
    simp only [pint] at h g
    simp only [eqv, D.lst.injEq]
    exact eqvs_pints k m xs ys h g
  | k + 1, 0, .tup xs, .tup ys, h, g => by simp [pint] at g
  | k + 1, 0, .lst xs, .lst ys, h, g => by simp [pint] at g
  | 0, _, .tup xs, _, h, _ => by simp [pint] at h
  | 0, _, .lst xs, _, h, _ => by simp [pint] at h
  | _, _, .tup xs, .non, _, _ => by simp [eqv]
  | _, _, .tup xs, .int _, _, _ => by simp [eqv]
  | _, _, .tup xs, .lst _, _, _ => by simp [eqv]
  | _, _, .tup xs, .bl _, _, g => by simp [pint] at g
  | _, _, .tup xs, .str _, _, g => by simp [pint] at g
  | _, _, .tup xs, .set _, _, g => by simp [pint] at g
  | _, _, .tup xs, .dct _ _, _, g => by simp [pint] at g
  | _, _, .tup xs, .loc _, _, g => by simp [pint] at g
  | _, _, .lst xs, .non, _, _ => by simp [eqv]
  | _, _, .lst xs, .int _, _, _ => by simp [eqv]
  | _, _, .lst xs, .tup _, _, _ => by simp [eqv]
  | _, _, .lst xs, .bl _, _, g => by simp [pint] at g
  | _, _, .lst xs, .str _, _, g => by simp [pint] at g
  | _, _, .lst xs, .set _, _, g => by simp [pint] at g
  | _, _, .lst xs, .dct _ _, _, g => by simp [pint] at g
  | _, _, .lst xs, .loc _, _, g => by simp [pint] at g
  | _, _, .bl _, _, h, _ => by simp [pint] at h
  | _, _, .str _, _, h, _ => by simp [pint] at h
  | _, _, .set _, _, h, _ => by simp [pint] at h
  | _, _, .dct _ _, _, h, _ => by simp [pint] at h
  | _, _, .loc _, _, h, _ => by simp [pint] at h
theorem eqvs_pints : ∀ (k m : Nat) (a b : List D), pints k a = true → pints m b = true → (eqvs a b = true ↔ a = b)
  | _, _, [], [], _, _ => by simp [eqvs]
  | _, _, [], _ :: _, _, _ => by simp [eqvs]
  | _, _, _ :: _, [], _, _ => by simp [eqvs]
  | k, m, x :: xs, y :: ys, h, g => by
    simp only [pints, Bool.and_eq_true] at h g
    simp only [eqvs, Bool.and_eq_true, List.cons.injEq]
    rw [eqv_pint k m x y h.1 g.1, eqvs_pints k m xs ys h.2 g.2]
end
open Classical in
theorem eq_pint {a b : D} (h : pint 60 a = true) (g : pint 60 b = true) : eqD a b = some (decide (a = b)) := by
  unfold eqD
  rw [pint_plain 60 a h, pint_plain 60 b g]
  simp only [Bool.and_self, if_true]
  congr 1
  by_cases e : a = b
  · rw [(eqv_pint 60 60 a b h g).mpr e]; simp [e]
  · rw [Bool.eq_false_iff.mpr fun z => e ((eqv_pint 60 60 a b h g).mp z)]; simp [e]
/-! ### loops -/
theorem loopC_map {body : D → Sto → Out (Option D)} {g : Gd} {s : Sto} {f : D → D} : ∀ {ds : List D}, gok s g = true → (∀ d ∈ ds, body d s = .ok (some (f d)) s) → loopC body g ds s = .ok (ds.map f) s
  | [], hg, _ => by simp [loopC, hg]
  | d :: r, hg, h => by
    simp only [loopC, hg, if_true]
    rw [h d (by simp), bind_ok, loopC_map hg fun d hd => h d (by simp [hd])]
    rfl
theorem loopC_filterMap {body : D → Sto → Out (Option D)} {g : Gd} {s : Sto} {f : D → Option D} : ∀ {ds : List D}, gok s g = true → (∀ d ∈ ds, body d s = .ok (f d) s) → loopC body g ds s = .ok (ds.filterMap f) s
  | [], hg, _ => by simp [loopC, hg]
  | d :: r, hg, h => by
    simp only [loopC, hg, if_true]
    rw [h d (by simp), bind_ok, loopC_filterMap hg fun d hd => h d (by simp [hd])]
    cases q : f d <;> simp [q]
@[simp] theorem ev_comp' {c : Cl} {own : List (Str × Nat)} {tg : Tg} {it : CI} {ifs : CEs} {elt : CE} {e : En} {s : Sto} : evE c (.comp own tg it ifs elt) e s = (evI c it e s).bind fun w s => (noExc (loopC (fun d s => (evT c tg d (wipeE e own) s).bind fun e1 s => (evIf c ifs e1 s).bind fun k s =>
      if k = true then (evE c elt e1 s).bind fun y s => .ok (some y) s else .ok none s) w.2 w.1 s)).bind fun ys s => if ys.length ≤ big then .ok (.lst ys) s else .bad := by rw [evE]
theorem loopC_of {α : Type} {body : D → Sto → Out (Option D)} {g : Gd} {s : Sto} {i : α → D} (f : α → D) : ∀ {xs : List α}, gok s g = true → (∀ x ∈ xs, body (i x) s = .ok (some (f x)) s) → loopC body g (xs.map i) s = .ok (xs.map f) s
  | [], hg, _ => by simp [loopC, hg]
  | d :: r, hg, h => by
    simp only [loopC, hg, if_true, List.map_cons]
    rw [h d (by simp), bind_ok, loopC_of f hg fun d hd => h d (by simp [hd])]
    rfl
theorem loopC_fo {α : Type} {body : D → Sto → Out (Option D)} {g : Gd} {s : Sto} {i : α → D} (f : α → Option D) : ∀ {xs : List α}, gok s g = true → (∀ x ∈ xs, body (i x) s = .ok (f x) s) → loopC body g (xs.map i) s = .ok (xs.filterMap f) s
  | [], hg, _ => by simp [loopC, hg]
  | d :: r, hg, h => by
    simp only [loopC, hg, if_true, List.map_cons]
    rw [h d (by simp), bind_ok, loopC_fo f hg fun d hd => h d (by simp [hd])]
    cases q : f d <;> simp [q]
/-- new lists, each a cell -/
theorem loopC_thaw {α : Type} {body : D → Sto → Out (Option D)} {i : α → D} (f : α → List D) : ∀ {xs : List α} {s : Sto}, (∀ x ∈ xs, ∀ s', body (i x) s' = .ok (some (.loc s'.length)) (s' ++ [.lst (f x)])) →
    loopC body [] (xs.map i) s = .ok ((List.range xs.length).map fun k => .loc (s.length + k)) (s ++ xs.map fun x => .lst (f x))
  | [], s, _ => by simp [loopC]
  | x :: r, s, h => by
    simp only [loopC, gok_nil, if_true, List.map_cons]
    rw [h x (by simp), bind_ok, loopC_thaw f fun y hy => h y (by simp [hy]), bind_ok]
    simp only [List.append_assoc, List.singleton_append, List.length_cons, List.range_succ_eq_map, List.map_cons, List.map_map, List.length_append, List.length_nil]
    congr 1
    simp only [Nat.add_zero, List.cons.injEq, true_and]
    refine List.map_congr_left fun k _ => ?_
    show D.loc _ = D.loc _
    congr 1
    omega
mutual
theorem same_refl : ∀ d : D, same d d = true
  | .non => rfl
  | .bl _ => by simp [same]
  | .int _ => by simp [same]
  | .str _ => by simp [same]
  | .loc _ => by simp [same]
  | .tup xs => by simp only [same]; exact sames_refl xs
  | .lst xs => by simp only [same]; exact sames_refl xs
  | .set xs => by simp only [same]; exact sames_refl xs
  | .dct ks vs => by simp only [same, Bool.and_eq_true]; exact ⟨sames_refl ks, sames_refl vs⟩
theorem sames_refl : ∀ ds : List D, sames ds ds = true
  | [] => rfl
  | d :: r => by simp only [sames, Bool.and_eq_true]; exact ⟨same_refl d, sames_refl r⟩
end
@[simp] theorem at_nat {xs : List D} {i : Nat} : atD xs (i : Int) = xs[i]? := by simp [atD]
@[simp] theorem at_zero {xs : List D} : atD xs 0 = xs[0]? := by simp [atD]
theorem ev_thaw {c : Cl} {a : CE} {e : En} {s s1 : Sto} {xs : List D} (h : evE c a e s = .ok (.lst xs) s1) (hb : belows s1.length xs = true) : evE c (.thaw a) e s = .ok (.loc s1.length) (s1 ++ [.lst xs]) := by
  rw [evE, h, bind_ok]
  simp [hb]
def thawO (x : D) (s : Sto) : Out D :=
  match x with
  | .lst xs => if belows s.length xs then .ok (.loc s.length) (s ++ [.lst xs]) else .bad
  | _ => .bad
@[simp] theorem thawO_lst {xs : List D} {s : Sto} : thawO (.lst xs) s = if belows s.length xs then .ok (.loc s.length) (s ++ [.lst xs]) else .bad := id rfl
@[simp] theorem ev_thaw' {c : Cl} {a : CE} {e : En} {s : Sto} : evE c (.thaw a) e s = (evE c a e s).bind fun x s => thawO x s := by
  rw [evE]
  congr
def subO (y : D) (n : Nat) (d : D) (e : En) (s : Sto) : Out En :=
  match y with
  | .int k => (setC n k d s).bind fun _ s => .ok e s
  | _ => .bad
@[simp] theorem subO_int {k : Int} {n : Nat} {d : D} {e : En} {s : Sto} : subO (.int k) n d e s = (setC n k d s).bind fun _ s => .ok e s := id rfl
@[simp] theorem ev_t_sub {c : Cl} {o i : CE} {d : D} {e : En} {s : Sto} : evT c (.sub o i) d e s = (noExc (evE c o e s)).bind fun x s => onLoc x fun n => (noExc (evE c i e s)).bind fun y s => subO y n d e s := by
  rw [evT]
  congr
theorem belows_ints {n : Nat} (ns : List Int) : belows n (ns.map D.int) = true := by
  induction ns with
  | nil => rfl
  | cons a r ih => simp [belows, below, ih]
theorem belows_locs {n : Nat} {α : Type} {f : α → Nat} : ∀ {xs : List α}, (∀ x ∈ xs, f x < n) → belows n (xs.map fun x => .loc (f x)) = true
  | [], _ => rfl
  | x :: r, h => by
    have h1 := h x (by simp)
    simp only [List.map_cons, belows, below, h1, decide_true, Bool.true_and]
    exact belows_locs (f := f) fun y hy => h y (List.mem_cons_of_mem _ hy)
theorem blsD_map {α : Type} {f : α → Bool} : ∀ {xs : List α}, blsD (xs.map fun x => .bl (f x)) = some (xs.map f)
  | [] => rfl
  | x :: r => by simp [blsD, blsD_map]
theorem intsD_map {α : Type} {f : α → Int} : ∀ {xs : List α}, intsD (xs.map fun x => .int (f x)) = some (xs.map f)
  | [] => rfl
  | x :: r => by simp [intsD, intsD_map]
/-- a comprehension over a value, the store as it was -/
theorem ev_comp {c : Cl} {own : List (Str × Nat)} {tg : Tg} {it : CI} {ifs : CEs} {elt : CE} {e : En} {s s1 s2 : Sto} {w : List D × Gd} {ys : List D} (h1 : evI c it e s = .ok w s1)
    (h2 : loopC (fun d s => (evT c tg d (wipeE e own) s).bind fun e1 s => (evIf c ifs e1 s).bind fun k s => if k = true then (evE c elt e1 s).bind fun y s => .ok (some y) s else .ok none s) w.2 w.1 s1 = .ok ys s2) (hl : ys.length ≤ big) :
    evE c (.comp own tg it ifs elt) e s = .ok (.lst ys) s2 := by
  rw [evE, h1, bind_ok, h2, noExc_ok, bind_ok, if_pos hl]
/-- a def's call -/
theorem call_of {fs : List FD} {n f : Nat} {fd : FD} {args : List D} {s : Sto} (h : fs[f]? = some fd) (hl : args.length = fd.np) {d : D} {s1 : Sto}
    (hr : evSs ⟨callN fs n⟩ fd.body (args.map some ++ List.replicate (fd.nl - fd.np) none) s = .ret d s1) (hf : (fd.fr && lowLoc s.length d) = false) : callN fs (n + 1) f args s = .ok (fz s.length s1 d) (s1.take s.length) := by
  simp only [callN, h, runF, hl, if_true, hr, hf, Bool.false_eq_true, if_false, leave]
theorem call_exc {fs : List FD} {n f : Nat} {fd : FD} {args : List D} {s : Sto} (h : fs[f]? = some fd) (hl : args.length = fd.np) {e : En} {s1 : Sto} {k : Nat} {v : D}
    (hr : evSs ⟨callN fs n⟩ fd.body (args.map some ++ List.replicate (fd.nl - fd.np) none) s = .exc k v e s1) : callN fs (n + 1) f args s = .exc k v (s1.take s.length) := by
  simp only [callN, h, runF, hl, if_true, hr]
theorem call_nx {fs : List FD} {n f : Nat} {fd : FD} {args : List D} {s : Sto} (h : fs[f]? = some fd) (hl : args.length = fd.np) {e : En} {s1 : Sto}
    (hr : evSs ⟨callN fs n⟩ fd.body (args.map some ++ List.replicate (fd.nl - fd.np) none) s = .nx e s1) : callN fs (n + 1) f args s = .ok .non (s1.take s.length) := by
  simp only [callN, h, runF, hl, if_true, hr, leave]
  rfl
/-! ### lists of ints, of truth values -/
def iD (ns : List Int) : List D := ns.map D.int
def bD (bs : List Bool) : List D := bs.map D.bl
def nI (k : Nat) : D := .int k
theorem iD_get {ns : List Int} {i : Nat} : (iD ns)[i]? = (ns[i]?).map D.int := by simp [iD]
@[simp] theorem iD_len {ns : List Int} : (iD ns).length = ns.length := by simp [iD]
@[simp] theorem bD_len {ns : List Bool} : (bD ns).length = ns.length := by simp [bD]
@[simp] theorem iD_ints : ∀ {ns : List Int}, intsD (iD ns) = some ns
  | [] => rfl
  | n :: r => by
    have := iD_ints (ns := r)
    simp only [iD] at this
    simp [iD, intsD, this]
@[simp] theorem bD_bls : ∀ {ns : List Bool}, blsD (bD ns) = some ns
  | [] => rfl
  | n :: r => by
    have := bD_bls (ns := r)
    simp only [bD] at this
    simp [bD, blsD, this]
theorem iD_pint {k : Nat} {ns : List Int} : pints k (iD ns) = true := by
  rw [pints_iff]
  intro d hd
  simp only [iD, List.mem_map] at hd
  obtain ⟨n, _, rfl⟩ := hd
  simp [pint]
theorem iD_below {n : Nat} {ns : List Int} : belows n (iD ns) = true := belows_ints ns
theorem iD_inj : ∀ {ns ms : List Int}, iD ns = iD ms ↔ ns = ms
  | [], [] => by simp
  | [], _ :: _ => by simp [iD]
  | _ :: _, [] => by simp [iD]
  | a :: r, b :: t => by
    have := iD_inj (ns := r) (ms := t)
    simp only [iD] at this
    simp [iD, this]
theorem loopC_int {α : Type} {body : D → Sto → Out (Option D)} {g : Gd} {s : Sto} {i : α → D} (f : α → Int) {xs : List α} (hg : gok s g = true) (h : ∀ x ∈ xs, body (i x) s = .ok (some (.int (f x))) s) : loopC body g (xs.map i) s = .ok (iD (xs.map f)) s := by
  rw [loopC_of (fun x => .int (f x)) hg h]
  simp [iD, Function.comp_def]
theorem loopC_bl {α : Type} {body : D → Sto → Out (Option D)} {g : Gd} {s : Sto} {i : α → D} (f : α → Bool) {xs : List α} (hg : gok s g = true) (h : ∀ x ∈ xs, body (i x) s = .ok (some (.bl (f x))) s) : loopC body g (xs.map i) s = .ok (bD (xs.map f)) s := by
  rw [loopC_of (fun x => .bl (f x)) hg h]
  simp [bD, Function.comp_def]
theorem rangeD_nat {n : Nat} : rangeD 0 n 1 = (List.range n).map nI := by
  unfold rangeD
  refine List.map_congr_left fun k _ => ?_
  show D.int (0 + (k : Int) * 1) = D.int k
  rw [Int.zero_add, Int.mul_one]
theorem rng1 {n : Nat} (h : n ≤ 5000000) : rngD [.int (n : Int)] = some ((List.range n).map nI) := by
  have h0 : inR (n : Int) = true := by unfold inR; exact decide_eq_true ⟨by omega, by omega⟩
  unfold rngD
  simp only [h0, if_true]
  rw [Int.toNat_natCast, rangeD_nat]
/-! ### operations at known values -/
section
variable {i j : Int} {b b2 : Bool} {xs ys : List D} {ns : List Int} {s : Sto}
@[simp] theorem bi_len_t : biD .len [.tup xs] = some (.int xs.length) := id rfl
@[simp] theorem bi_len_l : biD .len [.lst xs] = some (.int xs.length) := id rfl
@[simp] theorem bi_abs : biD .abs [.int i] = some (.int (if i < 0 then -i else i)) := id rfl
@[simp] theorem bi_int : biD .int [.int i] = some (.int i) := id rfl
@[simp] theorem bi_sum_l : biD .sum [.lst (iD ns)] = some (.int ns.sum) := by simp [biD, seqD]
@[simp] theorem bi_sum_t : biD .sum [.tup (iD ns)] = some (.int ns.sum) := by simp [biD, seqD]
@[simp] theorem bi_min2 : biD .min [.int i, .int j] = some (.int (if j < i then j else i)) := id rfl
@[simp] theorem bi_max2 : biD .max [.int i, .int j] = some (.int (if j > i then j else i)) := id rfl
@[simp] theorem bi_all {bs : List Bool} : biD .all [.lst (bD bs)] = some (.bl (bs.all id)) := by simp [biD]
@[simp] theorem bi_any {bs : List Bool} : biD .any [.lst (bD bs)] = some (.bl (bs.any id)) := by simp [biD]
@[simp] theorem bi_tup_l : biD .tuple [.lst xs] = some (.tup xs) := id rfl
@[simp] theorem bi_tup_t : biD .tuple [.tup xs] = some (.tup xs) := id rfl
@[simp] theorem bi_lst_l : biD .list [.lst xs] = some (.lst xs) := id rfl
@[simp] theorem bi_lst_t : biD .list [.tup xs] = some (.lst xs) := id rfl
@[simp] theorem ix_t : idxD (.tup xs) (.int i) = atD xs i := id rfl
@[simp] theorem ix_l : idxD (.lst xs) (.int i) = atD xs i := id rfl
@[simp] theorem isi_int_int : isiD .int (.int i) = some true := id rfl
@[simp] theorem isi_bool_int : isiD .bool (.int i) = some false := id rfl
@[simp] theorem isi_bool_bl : isiD .bool (.bl b) = some true := id rfl
@[simp] theorem isi_bool_t : isiD .bool (.tup xs) = some false := id rfl
@[simp] theorem isi_bool_l : isiD .bool (.lst xs) = some false := id rfl
@[simp] theorem isi_bool_n : isiD .bool .non = some false := id rfl
@[simp] theorem isi_tup_t : isiD .tuple (.tup xs) = some true := id rfl
@[simp] theorem isi_tup_l : isiD .tuple (.lst xs) = some false := id rfl
@[simp] theorem isi_tup_i : isiD .tuple (.int i) = some false := id rfl
@[simp] theorem isi_tup_b : isiD .tuple (.bl b) = some false := id rfl
@[simp] theorem isi_tup_n : isiD .tuple .non = some false := id rfl
@[simp] theorem isi_lst_l : isiD .list (.lst xs) = some true := id rfl
@[simp] theorem isi_lst_t : isiD .list (.tup xs) = some false := id rfl
@[simp] theorem isi_lst_i : isiD .list (.int i) = some false := id rfl
@[simp] theorem isi_lst_b : isiD .list (.bl b) = some false := id rfl
@[simp] theorem isi_lst_n : isiD .list .non = some false := id rfl
@[simp] theorem cmp_lt : cmpD .lt (.int i) (.int j) = some (.bl (decide (i < j))) := id rfl
@[simp] theorem cmp_le : cmpD .le (.int i) (.int j) = some (.bl (decide (i ≤ j))) := id rfl
@[simp] theorem cmp_gt : cmpD .gt (.int i) (.int j) = some (.bl (decide (j < i))) := id rfl
@[simp] theorem cmp_ge : cmpD .ge (.int i) (.int j) = some (.bl (decide (j ≤ i))) := id rfl
@[simp] theorem cmp_eq_i : cmpD .eq (.int i) (.int j) = some (.bl (decide (i = j))) := by simp [cmpD, eqD, plain, eqv]; rfl
@[simp] theorem cmp_ne_i : cmpD .ne (.int i) (.int j) = some (.bl (!decide (i = j))) := by simp [cmpD, eqD, plain, eqv]; rfl
@[simp] theorem cmp_eq_b : cmpD .eq (.bl b) (.bl b2) = some (.bl (b == b2)) := by simp [cmpD, eqD, plain, eqv]
@[simp] theorem cmp_is_b : cmpD .is_ (.bl b) (.bl b2) = some (.bl (decide (b = b2))) := id rfl
@[simp] theorem cmp_isn_b : cmpD .isnot (.bl b) (.bl b2) = some (.bl (!decide (b = b2))) := id rfl
@[simp] theorem cmp_isn_n : cmpD .isnot .non .non = some (.bl false) := id rfl
@[simp] theorem cmp_isn_t : cmpD .isnot (.tup xs) .non = some (.bl true) := id rfl
open Classical in
theorem cmp_eq_p {d f : D} (h : pint 60 d = true) (g : pint 60 f = true) : cmpD .eq d f = some (.bl (decide (d = f))) := by
  show (eqD d f).map D.bl = _
  rw [eq_pint h g]; rfl
open Classical in
theorem cmp_ne_p {d f : D} (h : pint 60 d = true) (g : pint 60 f = true) : cmpD .ne d f = some (.bl (!decide (d = f))) := by
  show (eqD d f).map (fun k => D.bl (!k)) = _
  rw [eq_pint h g]; rfl
@[simp] theorem bin_add : binD .add (.int i) (.int j) = some (.int (i + j)) := id rfl
@[simp] theorem bin_sub : binD .sub (.int i) (.int j) = some (.int (i - j)) := id rfl
theorem bin_mul (h : mulOk i j = true) : binD .mul (.int i) (.int j) = some (.int (i * j)) := by simp [binD, h]
theorem bin_mod (h : j ≠ 0) : binD .mod (.int i) (.int j) = some (.int (modZ i j)) := by simp [binD, h]
theorem bin_div (h : divOk j = true) : binD .fdiv (.int i) (.int j) = some (.int (fdivZ i j)) := by simp [binD, h]
theorem bin_add_t (h : xs.length + ys.length ≤ big) : binD .add (.tup xs) (.tup ys) = some (.tup (xs ++ ys)) := by simp [binD, h]
theorem bin_add_l (h : xs.length + ys.length ≤ big) : binD .add (.lst xs) (.lst ys) = some (.lst (xs ++ ys)) := by simp [binD, h]
@[simp] theorem neg_int : negD (.int i) = some (.int (-i)) := id rfl
@[simp] theorem rev_t : revD (.tup xs) = some (.tup xs.reverse) := id rfl
end
end Pv
end
section
set_option maxRecDepth 100000
set_option maxHeartbeats 1000000
namespace Pm
open Pv
open PySem (Str)
/-! ### comprehensions over typed lists -/
def loopA {α : Type} (body : α → Sto → Out (Option D)) : List α → Sto → Out (List D)
  | [], s => .ok [] s
  | x :: r, s => (body x s).bind fun y s1 => (loopA body r s1).bind fun ys s2 => .ok (match y with
      | some y => y :: ys
      | none => ys) s2
section
variable {α β : Type} {s : Sto}
@[simp] theorem loopC_map0 {body : D → Sto → Out (Option D)} {i : α → D} : ∀ {xs : List α} {s : Sto}, loopC body [] (xs.map i) s = loopA (fun x => body (i x)) xs s
  | [], s => rfl
  | x :: r, s => by
    simp only [List.map_cons, loopC, gok_nil, if_true, loopA]
    congr 1
    funext y s1
    rw [loopC_map0] <;> rfl
@[simp] theorem loopC_iD {body : D → Sto → Out (Option D)} {ns : List Int} : loopC body [] (iD ns) s = loopA (fun x => body (.int x)) ns s := loopC_map0
@[simp] theorem loopC_nil {body : D → Sto → Out (Option D)} : loopC body [] [] s = .ok [] s := id rfl
def consO (y : Option D) (ys : List D) : List D := match y with
  | some y => y :: ys
  | none => ys
@[simp] theorem consO_some {y : D} {ys : List D} : consO (some y) ys = y :: ys := id rfl
@[simp] theorem consO_none {ys : List D} : consO none ys = ys := id rfl
@[simp] theorem loopC_cons {body : D → Sto → Out (Option D)} {d : D} {r : List D} : loopC body [] (d :: r) s = (body d s).bind fun y s1 => (loopC body [] r s1).bind fun ys s2 => .ok (consO y ys) s2 := by
  simp only [loopC, gok_nil, if_true]
  rfl
theorem loopA_congr {f g : α → Sto → Out (Option D)} {xs ys : List α} {s s' : Sto} (hs : s = s') (h : xs = ys) (hb : ∀ x, x ∈ ys → ∀ s, f x s = g x s) : loopA f xs s = loopA g ys s' := by
  subst h hs
  induction xs generalizing s with
  | nil => rfl
  | cons x r ih =>
    simp only [loopA]
    rw [hb x (by simp)]
    congr 1
    funext y s1
    rw [ih fun y hy => hb y (by simp [hy])]
@[simp] theorem loopA_pure {f : α → D} : ∀ {xs : List α} {s : Sto}, loopA (fun x s => .ok (some (f x)) s) xs s = .ok (xs.map f) s
  | [], s => rfl
  | x :: r, s => by simp only [loopA, bind_ok, loopA_pure, List.map_cons]
@[simp] theorem loopA_none : ∀ {xs : List α} {s : Sto}, loopA (fun _ s => .ok none s) xs s = .ok [] s
  | [], s => rfl
  | x :: r, s => by simp only [loopA, bind_ok, loopA_none]
@[simp] theorem loopA_filter {p : α → Prop} [inst : DecidablePred p] {f : α → D} : ∀ {xs : List α} {s : Sto}, loopA (fun x s => if p x then .ok (some (f x)) s else .ok none s) xs s = .ok ((xs.filter fun x => decide (p x)).map f) s
  | [], s => rfl
  | x :: r, s => by
    simp only [loopA]
    by_cases h : p x
    · simp only [h, if_true, bind_ok, loopA_filter, decide_true, List.filter_cons_of_pos, List.map_cons]
    · simp only [h, if_false, bind_ok, loopA_filter, decide_false, Bool.false_eq_true, not_false_eq_true, List.filter_cons_of_neg]
/-- what a comprehension of unknown draws leaves -/
theorem loopA_ex {body : α → Sto → Out (Option D)} {Inv : Sto → Prop} {R : D → Prop} : ∀ {xs : List α} {s : Sto}, Inv s → (∀ x ∈ xs, ∀ s, Inv s → ∃ y s', body x s = .ok (some y) s' ∧ R y ∧ Inv s') →
    ∃ ys s', loopA body xs s = .ok ys s' ∧ ys.length = xs.length ∧ (∀ y ∈ ys, R y) ∧ Inv s'
  | [], s, hi, _ => ⟨[], s, rfl, rfl, by simp, hi⟩
  | x :: r, s, hi, h => by
    obtain ⟨y, s1, h1, h2, h3⟩ := h x (by simp) s hi
    obtain ⟨ys, s2, g1, g2, g3, g4⟩ := loopA_ex (xs := r) h3 fun z hz => h z (by simp [hz])
    refine ⟨y :: ys, s2, ?_, by simp [g2], fun z hz => ?_, g4⟩
    · simp only [loopA, h1, bind_ok, g1]
    · rcases List.mem_cons.mp hz with e | e
      · rw [e]; exact h2
      · exact g3 z e
theorem loopA_nix {body : α → Sto → Out (Option D)} {Inv : Sto → Prop} : ∀ {xs : List α} {s : Sto}, Inv s → (∀ x ∈ xs, ∀ s, Inv s → ∃ s', body x s = .ok none s' ∧ Inv s') → ∃ s', loopA body xs s = .ok [] s' ∧ Inv s'
  | [], s, hi, _ => ⟨s, rfl, hi⟩
  | x :: r, s, hi, h => by
    obtain ⟨s1, h1, h3⟩ := h x (by simp) s hi
    obtain ⟨s2, g1, g4⟩ := loopA_nix (xs := r) h3 fun z hz => h z (by simp [hz])
    exact ⟨s2, by simp only [loopA, h1, bind_ok, g1], g4⟩
/-! ### lists of ints, of truth values, of tuples of ints -/
@[simp] theorem map_int {f : α → Int} {xs : List α} : xs.map (fun x => D.int (f x)) = iD (xs.map f) := by
  unfold iD
  rw [List.map_map]
  rfl
@[simp] theorem map_int0 {xs : List Int} : xs.map D.int = iD xs := id rfl
@[simp] theorem map_bl {f : α → Bool} {xs : List α} : xs.map (fun x => D.bl (f x)) = bD (xs.map f) := by
  unfold bD
  rw [List.map_map]
  rfl
@[simp] theorem map_bl0 {xs : List Bool} : xs.map D.bl = bD xs := id rfl
@[simp] theorem nI_int {k : Nat} : nI k = .int (k : Int) := id rfl
theorem map_nI {xs : List Nat} : xs.map nI = iD (xs.map fun (k : Nat) => (k : Int)) := by
  unfold iD
  rw [List.map_map]
  rfl
def lD (xss : List (List Int)) : List D := xss.map fun r => .tup (iD r)
@[simp] theorem lD_len {xss : List (List Int)} : (lD xss).length = xss.length := by simp [lD]
@[simp] theorem map_lD {f : α → List Int} {xs : List α} : xs.map (fun x => D.tup (iD (f x))) = lD (xs.map f) := by
  unfold lD
  rw [List.map_map]
  rfl
@[simp] theorem loopC_lD {body : D → Sto → Out (Option D)} {ns : List (List Int)} : loopC body [] (lD ns) s = loopA (fun x => body (.tup (iD x))) ns s := loopC_map0
theorem lD_cons {x : List Int} {r : List (List Int)} : lD (x :: r) = .tup (iD x) :: lD r := rfl
theorem iD_cons {x : Int} {r : List Int} : iD (x :: r) = .int x :: iD r := rfl
@[simp] theorem lD_nil : lD [] = [] := id rfl
@[simp] theorem iD_nil : iD [] = [] := id rfl
theorem iD_app {a b : List Int} : iD (a ++ b) = iD a ++ iD b := by simp only [iD, List.map_append]
theorem lD_app {a b : List (List Int)} : lD (a ++ b) = lD a ++ lD b := by simp only [lD, List.map_append]
@[simp] theorem zip_map {f : α → D} {g : β → D} : ∀ {xs : List α} {ys : List β}, zipD (xs.map f) (ys.map g) = (xs.zip ys).map fun p => .tup [f p.1, g p.2]
  | [], _ => by simp [zipD]
  | _ :: _, [] => by simp [zipD]
  | x :: xs, y :: ys => by simp only [List.map_cons, zipD, zip_map, List.zip_cons_cons]
@[simp] theorem zip_iD {a b : List Int} : zipD (iD a) (iD b) = (a.zip b).map fun p => .tup [.int p.1, .int p.2] := zip_map
@[simp] theorem zip_lD {a b : List (List Int)} : zipD (lD a) (lD b) = (a.zip b).map fun p => .tup [.tup (iD p.1), .tup (iD p.2)] := zip_map
theorem enum_map {f : α → D} : ∀ {xs : List α} {k : Nat}, enumD k (xs.map f) = (xs.zipIdx k).map fun p => .tup [.int (p.2 : Nat), f p.1]
  | [], _ => rfl
  | x :: xs, k => by simp only [List.map_cons, enumD, enum_map, List.zipIdx_cons]
@[simp] theorem enum_iD {a : List Int} {k : Nat} : enumD k (iD a) = (a.zipIdx k).map fun p => .tup [.int (p.2 : Nat), .int p.1] := enum_map
/-! ### iterables -/
def zipO (x y : Option (Bool × List D × Gd)) (s : Sto) : Out (List D × Gd) :=
  match x, y with
  | some (k, xs, g), some (m, ys, h) => if k = m then .ok (zipD xs ys, g ++ h) s else .bad
  | _, _ => .bad
@[simp] theorem zipO_tt {xs ys : List D} : zipO (some (true, xs, [])) (some (true, ys, [])) s = .ok (zipD xs ys, []) s := id rfl
@[simp] theorem zipO_ll {xs ys : List D} : zipO (some (false, xs, [])) (some (false, ys, [])) s = .ok (zipD xs ys, []) s := id rfl
@[simp] theorem ev_i_zip {c : Cl} {a b : CE} {e : En} : evI c (.zip a b) e s = (evE c a e s).bind fun x s => (evE c b e s).bind fun y s => zipO (walkQ s x) (walkQ s y) s := by
  rw [evI]
  rfl
@[simp] theorem walkQ_t {xs : List D} : walkQ s (.tup xs) = some (true, xs, []) := id rfl
@[simp] theorem walkQ_l {xs : List D} : walkQ s (.lst xs) = some (false, xs, []) := id rfl
def revO (x : Option (Bool × List D × Gd)) (s : Sto) : Out (List D × Gd) :=
  match x with
  | some (_, xs, g) => .ok (xs.reverse, g) s
  | none => .bad
@[simp] theorem revO_some {k : Bool} {xs : List D} {g : Gd} : revO (some (k, xs, g)) s = .ok (xs.reverse, g) s := id rfl
def enumO (x : Option (Bool × List D × Gd)) (s : Sto) : Out (List D × Gd) :=
  match x with
  | some (_, xs, g) => .ok (enumD 0 xs, g) s
  | none => .bad
@[simp] theorem enumO_some {k : Bool} {xs : List D} {g : Gd} : enumO (some (k, xs, g)) s = .ok (enumD 0 xs, g) s := id rfl
@[simp] theorem ev_i_enum {c : Cl} {a : CE} {e : En} : evI c (.enum a) e s = (evE c a e s).bind fun x s => enumO (walkQ s x) s := by
  rw [evI]
  try rfl
@[simp] theorem ev_i_rev {c : Cl} {a : CE} {e : En} : evI c (.rev a) e s = (evE c a e s).bind fun x s => revO (walkQ s x) s := by
  rw [evI]
  congr
@[simp] theorem ev_i_revr {c : Cl} {es : CEs} {e : En} : evI c (.revr es) e s = (evEs c es e s).bind fun xs s => liftO ((rrngD xs).map fun l => (l, [])) s := by
  rw [evI]
  congr
  funext xs s
  cases rrngD xs <;> rfl
end
theorem big_of {n : Nat} (h : n ≤ 16777216) : n ≤ big := h
@[simp] theorem wipeE_nil {e : En} : wipeE e [] = e := id rfl
@[simp] theorem wipeE_cons {e : En} {v : Str × Nat} {vs : List (Str × Nat)} : wipeE e (v :: vs) = (wipeE e vs).set v.2 none := id rfl
/-! ### values with all cells read -/
section
variable {n : Nat} {s : Sto}
@[simp] theorem fz_tup {xs : List D} : fz n s (.tup xs) = .tup (fzDs n (fzL s n s.length) xs) := by simp [fz, fzD]
@[simp] theorem fz_lst {xs : List D} : fz n s (.lst xs) = .lst (fzDs n (fzL s n s.length) xs) := by simp [fz, fzD]
@[simp] theorem fz_str {x : Str} : fz n s (.str x) = .str x := id rfl
variable {g : Nat → D}
@[simp] theorem fzDs_nil : fzDs n g [] = [] := id rfl
@[simp] theorem fzDs_cons {d : D} {r : List D} : fzDs n g (d :: r) = fzD n g d :: fzDs n g r := id rfl
theorem fzDs_map : ∀ {xs : List D}, fzDs n g xs = xs.map (fzD n g)
  | [] => rfl
  | d :: r => by simp only [fzDs, List.map_cons, fzDs_map]
@[simp] theorem fzDs_iD {ns : List Int} : fzDs n g (iD ns) = iD ns := fzDs_id _ (pints_nolocs 0 _ iD_pint)
@[simp] theorem fzDs_bD {bs : List Bool} : fzDs n g (bD bs) = bD bs := fzDs_id _ (by rw [nolocs_iff]; intro d hd; simp only [bD, List.mem_map] at hd; obtain ⟨b, _, rfl⟩ := hd; rfl)
theorem lD_pint {k : Nat} {l : List (List Int)} : pints (k + 1) (lD l) = true := by
  rw [pints_iff]
  intro d hd
  simp only [lD, List.mem_map] at hd
  obtain ⟨r, _, rfl⟩ := hd
  simp only [pint, iD_pint]
@[simp] theorem fzDs_lD {l : List (List Int)} : fzDs n g (lD l) = lD l := fzDs_id _ (pints_nolocs 1 _ lD_pint)
@[simp] theorem fzD_tup {xs : List D} : fzD n g (.tup xs) = .tup (fzDs n g xs) := id rfl
@[simp] theorem fzD_lst {xs : List D} : fzD n g (.lst xs) = .lst (fzDs n g xs) := id rfl
@[simp] theorem fzD_int {i : Int} : fzD n g (.int i) = .int i := id rfl
@[simp] theorem fzD_bl {b : Bool} : fzD n g (.bl b) = .bl b := id rfl
@[simp] theorem fzD_non : fzD n g .non = .non := id rfl
@[simp] theorem fzD_str {x : Str} : fzD n g (.str x) = .str x := id rfl
end
/-! ### equality -/
section
variable {s : Sto} {x : Str}
@[simp] theorem rd_str {x : Str} : rd s (.str x) = .str x := id rfl
@[simp] theorem isi_b_s : isiD .bool (.str x) = some false := id rfl
@[simp] theorem isi_i_s : isiD .int (.str x) = some false := id rfl
@[simp] theorem isi_t_s : isiD .tuple (.str x) = some false := id rfl
@[simp] theorem isi_l_s : isiD .list (.str x) = some false := id rfl
@[simp] theorem isi_s_s : isiD .str (.str x) = some true := id rfl
@[simp] theorem isi_i_b {b : Bool} : isiD .int (.bl b) = some true := id rfl
@[simp] theorem isi_i_t {xs : List D} : isiD .int (.tup xs) = some false := id rfl
@[simp] theorem isi_i_l {xs : List D} : isiD .int (.lst xs) = some false := id rfl
@[simp] theorem isi_i_n : isiD .int .non = some false := id rfl
@[simp] theorem cmp_eqD {a b : D} : cmpD .eq a b = (eqD a b).map .bl := id rfl
@[simp] theorem cmp_neD {a b : D} : cmpD .ne a b = (eqD a b).map fun k => .bl (!k) := id rfl
@[simp] theorem eqD_u {a b : D} : eqD a b = if plain 60 a && plain 60 b then some (eqv a b) else none := id rfl
@[simp] theorem cmp_isin {a b : D} : cmpD .isin a b = (inD a b).map .bl := id rfl
@[simp] theorem cmp_notin {a b : D} : cmpD .notin a b = (inD a b).map fun k => .bl (!k) := id rfl
theorem eqD_plain {a b : D} (h : plain 60 a = true) (g : plain 60 b = true) : eqD a b = some (eqv a b) := by rw [eqD_u, h, g]; rfl
@[simp] theorem plains_iD {k : Nat} {ns : List Int} : plains k (iD ns) = true := pints_plains k _ iD_pint
@[simp] theorem plains_bD {k : Nat} {bs : List Bool} : plains k (bD bs) = true := by
  rw [plains_iff]; intro d hd; simp only [bD, List.mem_map] at hd; obtain ⟨b, _, rfl⟩ := hd; simp [plain]
@[simp] theorem plains_lD {k : Nat} {l : List (List Int)} : plains (k + 1) (lD l) = true := pints_plains (k + 1) _ lD_pint
@[simp] theorem plain_int {k : Nat} {i : Int} : plain k (.int i) = true := by simp [plain]
@[simp] theorem plain_bl {k : Nat} {b : Bool} : plain k (.bl b) = true := by simp [plain]
@[simp] theorem plain_non {k : Nat} : plain k .non = true := by simp [plain]
@[simp] theorem plain_tup {k : Nat} {xs : List D} : plain (k + 1) (.tup xs) = plains k xs := by simp [plain]
@[simp] theorem plain_lst {k : Nat} {xs : List D} : plain (k + 1) (.lst xs) = plains k xs := by simp [plain]
@[simp] theorem plains_nil {k : Nat} : plains k [] = true := by simp [plains]
@[simp] theorem plains_cons {k : Nat} {d : D} {r : List D} : plains k (d :: r) = (plain k d && plains k r) := by rw [plains]
theorem eqv_iD : ∀ {a b : List Int}, eqvs (iD a) (iD b) = decide (a = b)
  | [], [] => by simp [eqvs]
  | [], _ :: _ => by simp [iD_cons, eqvs]
  | _ :: _, [] => by simp [iD_cons, eqvs]
  | x :: a, y :: b => by
    simp only [iD_cons, eqvs, eqv, eqv_iD, List.cons.injEq]
    by_cases h : x = y <;> by_cases g : a = b <;> simp [h, g]
theorem eqv_lD : ∀ {a b : List (List Int)}, eqvs (lD a) (lD b) = decide (a = b)
  | [], [] => by simp [eqvs]
  | [], _ :: _ => by simp [lD_cons, eqvs]
  | _ :: _, [] => by simp [lD_cons, eqvs]
  | x :: a, y :: b => by
    simp only [lD_cons, eqvs, eqv, eqv_iD, eqv_lD, List.cons.injEq]
    by_cases h : x = y <;> by_cases g : a = b <;> simp [h, g]
theorem bD_cons {x : Bool} {r : List Bool} : bD (x :: r) = .bl x :: bD r := rfl
theorem bD_nil : bD [] = [] := rfl
theorem eqv_bD : ∀ {a b : List Bool}, eqvs (bD a) (bD b) = decide (a = b)
  | [], [] => by simp [bD_nil, eqvs]
  | [], _ :: _ => by simp [bD_nil, bD_cons, eqvs]
  | _ :: _, [] => by simp [bD_nil, bD_cons, eqvs]
  | x :: a, y :: b => by
    simp only [bD_cons, eqvs, eqv, eqv_bD, List.cons.injEq]
    cases x <;> cases y <;> by_cases g : a = b <;> simp [g]
@[simp] theorem eqt_ii {i j : Int} : eqv (.int i) (.int j) = decide (i = j) := by simp only [eqv]; rfl
@[simp] theorem eqt_bb {i j : Bool} : eqv (.bl i) (.bl j) = (i == j) := by simp only [eqv]
@[simp] theorem eqt_tt {xs ys : List D} : eqv (.tup xs) (.tup ys) = eqvs xs ys := by simp only [eqv]
@[simp] theorem eqt_ll {xs ys : List D} : eqv (.lst xs) (.lst ys) = eqvs xs ys := by simp only [eqv]
@[simp] theorem eqt_nn : eqv .non .non = true := by simp only [eqv]
@[simp] theorem eqs_nil : eqvs [] [] = true := by simp only [eqvs]
@[simp] theorem eqs_cons {x y : D} {xs ys : List D} : eqvs (x :: xs) (y :: ys) = (eqv x y && eqvs xs ys) := by simp only [eqvs]
@[simp] theorem eqs_iD {a b : List Int} : eqvs (iD a) (iD b) = decide (a = b) := eqv_iD
@[simp] theorem eqs_lD {a b : List (List Int)} : eqvs (lD a) (lD b) = decide (a = b) := eqv_lD
@[simp] theorem eqs_bD {a b : List Bool} : eqvs (bD a) (bD b) = decide (a = b) := eqv_bD
@[simp] theorem eqs_iD0 {a : List Int} : eqvs (iD a) [] = a.isEmpty := by cases a <;> simp [iD_cons, eqvs]
@[simp] theorem eqs_lD0 {a : List (List Int)} : eqvs (lD a) [] = a.isEmpty := by cases a <;> simp [lD_cons, eqvs]
@[simp] theorem eqs_0c {x : D} {xs : List D} : eqvs [] (x :: xs) = false := by simp only [eqvs]
@[simp] theorem eqs_c0 {x : D} {xs : List D} : eqvs (x :: xs) [] = false := by simp only [eqvs]
end
/-! ### statements -/
section
variable {c : Cl} {e : En} {s : Sto}
@[simp] theorem ev_s_for {t : Tg} {it : CI} {b : CSs} : evS c (.for_ t it b) e s = thenS (evI c it e s) e fun w s1 => loopS (fun d e s => thenS (evT c t d e s) e fun e1 s1 => evSs c b e1 s1) w.2 w.1 e s1 := by rw [evS]
@[simp] theorem ev_s_whl {t : CE} {b : CSs} : evS c (.whl t b) e s = loopW (fun e s => (evE c t e s).bind truth) (fun e s => evSs c b e s) fuelW e s := by rw [evS]
@[simp] theorem ev_s_app {o a : CE} : evS c (.app o a) e s = toS ((evE c o e s).bind fun x s => onLoc x fun n => (evE c a e s).bind fun y s => (appC n y s).bind fun _ s => .ok e s) e := by rw [evS]
def extO (n : Nat) (y : D) (e : En) (s : Sto) : Out En :=
  match y with
  | .lst ys => (extC n ys s).bind fun _ s => .ok e s
  | _ => .bad
@[simp] theorem extO_lst {n : Nat} {ys : List D} : extO n (.lst ys) e s = (extC n ys s).bind fun _ s => .ok e s := id rfl
@[simp] theorem ev_s_ext {o a : CE} : evS c (.ext o a) e s = toS ((evE c o e s).bind fun x s => onLoc x fun n => (evE c a e s).bind fun y s => extO n (rd s y) e s) e := by
  rw [evS]
  rfl
@[simp] theorem ev_s_pas : evS c .pas e s = .nx e s := by rw [evS]
@[simp] theorem ev_s_brk : evS c .brk e s = .brk e s := by rw [evS]
@[simp] theorem ev_s_cnt : evS c .cnt e s = .cnt e s := by rw [evS]
@[simp] theorem ev_s_ret0 : evS c .ret0 e s = .ret .non s := by rw [evS]
@[simp] theorem seqS_brk {f : En → Sto → OutS} : seqS (.brk e s) f = .brk e s := id rfl
@[simp] theorem seqS_cnt {f : En → Sto → OutS} : seqS (.cnt e s) f = .cnt e s := id rfl
def retLO (d : D) (s : Sto) : OutS :=
  match d with
  | .loc n => .ret (.loc n) s
  | _ => .bad
@[simp] theorem retLO_loc {n : Nat} : retLO (.loc n) s = .ret (.loc n) s := id rfl
@[simp] theorem ev_s_retL {a : CE} : evS c (.retL a) e s = thenS (evE c a e s) e fun d s1 => retLO d s1 := by
  rw [evS]
  rfl
def augO (i : Nat) (o : Op) (x y : D) (e : En) (s : Sto) : Out En :=
  match x, y with
  | .int m, .int n => .ok (e.set i (some (.int (match o with
      | .add => m + n
      | _ => m - n)))) s
  | _, _ => .bad
@[simp] theorem augO_add {i : Nat} {m n : Int} : augO i .add (.int m) (.int n) e s = .ok (e.set i (some (.int (m + n)))) s := id rfl
@[simp] theorem augO_sub {i : Nat} {m n : Int} : augO i .sub (.int m) (.int n) e s = .ok (e.set i (some (.int (m - n)))) s := id rfl
@[simp] theorem ev_s_aug {i : Nat} {o : Op} {a : CE} : evS c (.aug i o a) e s = toS ((evE c (.var i) e s).bind fun x s => (evE c a e s).bind fun y s => augO i o x y e s) e := by
  rw [evS]
  rfl
theorem belows_app {n : Nat} : ∀ {xs ys : List D}, belows n (xs ++ ys) = (belows n xs && belows n ys)
  | [], _ => rfl
  | x :: r, ys => by simp only [List.cons_append, belows, belows_app, Bool.and_assoc]
theorem ext_last {s : Sto} {xs ys : List D} (h : xs.length + ys.length ≤ big) (hb : belows s.length ys = true) (ha : belows s.length xs = true) : extC s.length ys (s ++ [.lst xs]) = .ok () (s ++ [.lst (xs ++ ys)]) := by
  simp [extC, h, putC, below, belows_app, ha, hb]
theorem app_last {s : Sto} {xs : List D} {d : D} (h : xs.length < big) (hb : below s.length d = true) (ha : belows s.length xs = true) : appC s.length d (s ++ [.lst xs]) = .ok () (s ++ [.lst (xs ++ [d])]) := by
  simp [appC, h, putC, below, belows, belows_app, ha, hb]
/-- a loop by what holds behind each item -/
theorem loopS_inv {α : Type} {body : D → En → Sto → OutS} {i : α → D} {gd : Gd} {xs : List α} (Inv : List α → En → Sto → Prop) (hg : ∀ pre e s, Inv pre e s → gok s gd = true)
    (hs : ∀ pre x post, xs = pre ++ x :: post → ∀ e s, Inv pre e s → ∃ e' s', body (i x) e s = .nx e' s' ∧ Inv (pre ++ [x]) e' s') {e : En} {s : Sto} (h0 : Inv [] e s) : ∃ e' s', loopS body gd (xs.map i) e s = .nx e' s' ∧ Inv xs e' s' := by
  have key : ∀ (post pre : List α) (e : En) (s : Sto), xs = pre ++ post → Inv pre e s → ∃ e' s', loopS body gd (post.map i) e s = .nx e' s' ∧ Inv xs e' s' := by
    intro post
    induction post with
    | nil =>
      intro pre e s hx hi
      have : pre = xs := by rw [hx, List.append_nil]
      subst this
      exact ⟨e, s, by simp [loopS, hg _ _ _ hi], hi⟩
    | cons x r ih =>
      intro pre e s hx hi
      obtain ⟨e1, s1, h1, h2⟩ := hs pre x r hx e s hi
      obtain ⟨e2, s2, g1, g2⟩ := ih (pre ++ [x]) e1 s1 (by rw [hx]; simp) h2
      refine ⟨e2, s2, ?_, g2⟩
      simp only [List.map_cons, loopS, hg _ _ _ hi, if_true, h1]
      exact g1
  exact key xs [] e s rfl h0
end
end Pm
end
section
set_option maxRecDepth 100000
set_option maxHeartbeats 400000
namespace LawTop
open Pv
open PySem (Str)
abbrev F : List FD := fis.map FI.fd
theorem at_is_whole : F[0]? = some q_is_whole.fd := rfl
theorem c_is_whole {n : Nat} {x0 x1 x2 : D} {d : D} {s s1 : Sto} (e : evSs ⟨callN F n⟩ b_is_whole [some x0, some x1, some x2] s = .ret d s1) : callN F (n + 1) 0 [x0, x1, x2] s = .ok (fz s.length s1 d) (s1.take s.length) := call_of (fd := q_is_whole.fd) at_is_whole rfl e rfl
theorem cn_is_whole {n : Nat} {x0 x1 x2 : D} {e1 : En} {s s1 : Sto} (e : evSs ⟨callN F n⟩ b_is_whole [some x0, some x1, some x2] s = .nx e1 s1) : callN F (n + 1) 0 [x0, x1, x2] s = .ok .non (s1.take s.length) := call_nx (fd := q_is_whole.fd) at_is_whole rfl e
theorem at_is_tuple_of : F[1]? = some q_is_tuple_of.fd := rfl
theorem c_is_tuple_of {n : Nat} {x0 x1 x2 : D} {d : D} {s s1 : Sto} (e : evSs ⟨callN F n⟩ b_is_tuple_of [some x0, some x1, some x2] s = .ret d s1) : callN F (n + 1) 1 [x0, x1, x2] s = .ok (fz s.length s1 d) (s1.take s.length) := call_of (fd := q_is_tuple_of.fd) at_is_tuple_of rfl e rfl
theorem cn_is_tuple_of {n : Nat} {x0 x1 x2 : D} {e1 : En} {s s1 : Sto} (e : evSs ⟨callN F n⟩ b_is_tuple_of [some x0, some x1, some x2] s = .nx e1 s1) : callN F (n + 1) 1 [x0, x1, x2] s = .ok .non (s1.take s.length) := call_nx (fd := q_is_tuple_of.fd) at_is_tuple_of rfl e
theorem at_are_wholes : F[2]? = some q_are_wholes.fd := rfl
theorem c_are_wholes {n : Nat} {x0 x1 x2 x3 : D} {d : D} {s s1 : Sto} (e : evSs ⟨callN F n⟩ b_are_wholes [some x0, some x1, some x2, some x3, none] s = .ret d s1) : callN F (n + 1) 2 [x0, x1, x2, x3] s = .ok (fz s.length s1 d) (s1.take s.length) := call_of (fd := q_are_wholes.fd) at_are_wholes rfl e rfl
theorem cn_are_wholes {n : Nat} {x0 x1 x2 x3 : D} {e1 : En} {s s1 : Sto} (e : evSs ⟨callN F n⟩ b_are_wholes [some x0, some x1, some x2, some x3, none] s = .nx e1 s1) : callN F (n + 1) 2 [x0, x1, x2, x3] s = .ok .non (s1.take s.length) := call_nx (fd := q_are_wholes.fd) at_are_wholes rfl e
theorem at_is_table : F[3]? = some q_is_table.fd := rfl
theorem c_is_table {n : Nat} {x0 : D} {d : D} {s s1 : Sto} (e : evSs ⟨callN F n⟩ b_is_table [some x0] s = .ret d s1) : callN F (n + 1) 3 [x0] s = .ok (fz s.length s1 d) (s1.take s.length) := call_of (fd := q_is_table.fd) at_is_table rfl e rfl
theorem cn_is_table {n : Nat} {x0 : D} {e1 : En} {s s1 : Sto} (e : evSs ⟨callN F n⟩ b_is_table [some x0] s = .nx e1 s1) : callN F (n + 1) 3 [x0] s = .ok .non (s1.take s.length) := call_nx (fd := q_is_table.fd) at_is_table rfl e
theorem at_need_table : F[4]? = some q_need_table.fd := rfl
theorem c_need_table {n : Nat} {x0 : D} {d : D} {s s1 : Sto} (e : evSs ⟨callN F n⟩ b_need_table [some x0] s = .ret d s1) : callN F (n + 1) 4 [x0] s = .ok (fz s.length s1 d) (s1.take s.length) := call_of (fd := q_need_table.fd) at_need_table rfl e rfl
theorem cn_need_table {n : Nat} {x0 : D} {e1 : En} {s s1 : Sto} (e : evSs ⟨callN F n⟩ b_need_table [some x0] s = .nx e1 s1) : callN F (n + 1) 4 [x0] s = .ok .non (s1.take s.length) := call_nx (fd := q_need_table.fd) at_need_table rfl e
theorem at_most_of : F[5]? = some q_most_of.fd := rfl
theorem c_most_of {n : Nat} {x0 : D} {d : D} {s s1 : Sto} (e : evSs ⟨callN F n⟩ b_most_of [some x0] s = .ret d s1) : callN F (n + 1) 5 [x0] s = .ok (fz s.length s1 d) (s1.take s.length) := call_of (fd := q_most_of.fd) at_most_of rfl e rfl
theorem cn_most_of {n : Nat} {x0 : D} {e1 : En} {s s1 : Sto} (e : evSs ⟨callN F n⟩ b_most_of [some x0] s = .nx e1 s1) : callN F (n + 1) 5 [x0] s = .ok .non (s1.take s.length) := call_nx (fd := q_most_of.fd) at_most_of rfl e
theorem at_totals_of_piles : F[6]? = some q_totals_of_piles.fd := rfl
theorem c_totals_of_piles {n : Nat} {x0 x1 : D} {d : D} {s s1 : Sto} (e : evSs ⟨callN F n⟩ b_totals_of_piles [some x0, some x1, none, none, none] s = .ret d s1) : callN F (n + 1) 6 [x0, x1] s = .ok (fz s.length s1 d) (s1.take s.length) := call_of (fd := q_totals_of_piles.fd) at_totals_of_piles rfl e rfl
theorem cn_totals_of_piles {n : Nat} {x0 x1 : D} {e1 : En} {s s1 : Sto} (e : evSs ⟨callN F n⟩ b_totals_of_piles [some x0, some x1, none, none, none] s = .nx e1 s1) : callN F (n + 1) 6 [x0, x1] s = .ok .non (s1.take s.length) := call_nx (fd := q_totals_of_piles.fd) at_totals_of_piles rfl e
theorem at_fits_stock : F[7]? = some q_fits_stock.fd := rfl
theorem c_fits_stock {n : Nat} {x0 x1 : D} {d : D} {s s1 : Sto} (e : evSs ⟨callN F n⟩ b_fits_stock [some x0, some x1] s = .ret d s1) : callN F (n + 1) 7 [x0, x1] s = .ok (fz s.length s1 d) (s1.take s.length) := call_of (fd := q_fits_stock.fd) at_fits_stock rfl e rfl
theorem cn_fits_stock {n : Nat} {x0 x1 : D} {e1 : En} {s s1 : Sto} (e : evSs ⟨callN F n⟩ b_fits_stock [some x0, some x1] s = .nx e1 s1) : callN F (n + 1) 7 [x0, x1] s = .ok .non (s1.take s.length) := call_nx (fd := q_fits_stock.fd) at_fits_stock rfl e
theorem at_is_stock : F[8]? = some q_is_stock.fd := rfl
theorem c_is_stock {n : Nat} {x0 x1 : D} {d : D} {s s1 : Sto} (e : evSs ⟨callN F n⟩ b_is_stock [some x0, some x1] s = .ret d s1) : callN F (n + 1) 8 [x0, x1] s = .ok (fz s.length s1 d) (s1.take s.length) := call_of (fd := q_is_stock.fd) at_is_stock rfl e rfl
theorem cn_is_stock {n : Nat} {x0 x1 : D} {e1 : En} {s s1 : Sto} (e : evSs ⟨callN F n⟩ b_is_stock [some x0, some x1] s = .nx e1 s1) : callN F (n + 1) 8 [x0, x1] s = .ok .non (s1.take s.length) := call_nx (fd := q_is_stock.fd) at_is_stock rfl e
theorem at_need_stock : F[9]? = some q_need_stock.fd := rfl
theorem c_need_stock {n : Nat} {x0 x1 : D} {d : D} {s s1 : Sto} (e : evSs ⟨callN F n⟩ b_need_stock [some x0, some x1] s = .ret d s1) : callN F (n + 1) 9 [x0, x1] s = .ok (fz s.length s1 d) (s1.take s.length) := call_of (fd := q_need_stock.fd) at_need_stock rfl e rfl
theorem cn_need_stock {n : Nat} {x0 x1 : D} {e1 : En} {s s1 : Sto} (e : evSs ⟨callN F n⟩ b_need_stock [some x0, some x1] s = .nx e1 s1) : callN F (n + 1) 9 [x0, x1] s = .ok .non (s1.take s.length) := call_nx (fd := q_need_stock.fd) at_need_stock rfl e
theorem at_totals_of : F[10]? = some q_totals_of.fd := rfl
theorem c_totals_of {n : Nat} {x0 x1 : D} {d : D} {s s1 : Sto} (e : evSs ⟨callN F n⟩ b_totals_of [some x0, some x1] s = .ret d s1) : callN F (n + 1) 10 [x0, x1] s = .ok (fz s.length s1 d) (s1.take s.length) := call_of (fd := q_totals_of.fd) at_totals_of rfl e rfl
theorem cn_totals_of {n : Nat} {x0 x1 : D} {e1 : En} {s s1 : Sto} (e : evSs ⟨callN F n⟩ b_totals_of [some x0, some x1] s = .nx e1 s1) : callN F (n + 1) 10 [x0, x1] s = .ok .non (s1.take s.length) := call_nx (fd := q_totals_of.fd) at_totals_of rfl e
theorem at_yard_of : F[11]? = some q_yard_of.fd := rfl
theorem c_yard_of {n : Nat} {x0 x1 : D} {d : D} {s s1 : Sto} (e : evSs ⟨callN F n⟩ b_yard_of [some x0, some x1, none, none, none, none, none, none, none, none] s = .ret d s1) : callN F (n + 1) 11 [x0, x1] s = .ok (fz s.length s1 d) (s1.take s.length) := call_of (fd := q_yard_of.fd) at_yard_of rfl e rfl
theorem cn_yard_of {n : Nat} {x0 x1 : D} {e1 : En} {s s1 : Sto} (e : evSs ⟨callN F n⟩ b_yard_of [some x0, some x1, none, none, none, none, none, none, none, none] s = .nx e1 s1) : callN F (n + 1) 11 [x0, x1] s = .ok .non (s1.take s.length) := call_nx (fd := q_yard_of.fd) at_yard_of rfl e
theorem at_need_totals : F[12]? = some q_need_totals.fd := rfl
theorem c_need_totals {n : Nat} {x0 x1 : D} {d : D} {s s1 : Sto} (e : evSs ⟨callN F n⟩ b_need_totals [some x0, some x1] s = .ret d s1) : callN F (n + 1) 12 [x0, x1] s = .ok (fz s.length s1 d) (s1.take s.length) := call_of (fd := q_need_totals.fd) at_need_totals rfl e rfl
theorem cn_need_totals {n : Nat} {x0 x1 : D} {e1 : En} {s s1 : Sto} (e : evSs ⟨callN F n⟩ b_need_totals [some x0, some x1] s = .nx e1 s1) : callN F (n + 1) 12 [x0, x1] s = .ok .non (s1.take s.length) := call_nx (fd := q_need_totals.fd) at_need_totals rfl e
theorem at_yard : F[13]? = some q_yard.fd := rfl
theorem c_yard {n : Nat} {x0 x1 : D} {d : D} {s s1 : Sto} (e : evSs ⟨callN F n⟩ b_yard [some x0, some x1] s = .ret d s1) : callN F (n + 1) 13 [x0, x1] s = .ok (fz s.length s1 d) (s1.take s.length) := call_of (fd := q_yard.fd) at_yard rfl e rfl
theorem cn_yard {n : Nat} {x0 x1 : D} {e1 : En} {s s1 : Sto} (e : evSs ⟨callN F n⟩ b_yard [some x0, some x1] s = .nx e1 s1) : callN F (n + 1) 13 [x0, x1] s = .ok .non (s1.take s.length) := call_nx (fd := q_yard.fd) at_yard rfl e
theorem at_brings_of : F[14]? = some q_brings_of.fd := rfl
theorem c_brings_of {n : Nat} {x0 : D} {d : D} {s s1 : Sto} (e : evSs ⟨callN F n⟩ b_brings_of [some x0, none] s = .ret d s1) : callN F (n + 1) 14 [x0] s = .ok (fz s.length s1 d) (s1.take s.length) := call_of (fd := q_brings_of.fd) at_brings_of rfl e rfl
theorem cn_brings_of {n : Nat} {x0 : D} {e1 : En} {s s1 : Sto} (e : evSs ⟨callN F n⟩ b_brings_of [some x0, none] s = .nx e1 s1) : callN F (n + 1) 14 [x0] s = .ok .non (s1.take s.length) := call_nx (fd := q_brings_of.fd) at_brings_of rfl e
theorem at_takes_of : F[15]? = some q_takes_of.fd := rfl
theorem c_takes_of {n : Nat} {x0 : D} {d : D} {s s1 : Sto} (e : evSs ⟨callN F n⟩ b_takes_of [some x0, none] s = .ret d s1) : callN F (n + 1) 15 [x0] s = .ok (fz s.length s1 d) (s1.take s.length) := call_of (fd := q_takes_of.fd) at_takes_of rfl e rfl
theorem cn_takes_of {n : Nat} {x0 : D} {e1 : En} {s s1 : Sto} (e : evSs ⟨callN F n⟩ b_takes_of [some x0, none] s = .nx e1 s1) : callN F (n + 1) 15 [x0] s = .ok .non (s1.take s.length) := call_nx (fd := q_takes_of.fd) at_takes_of rfl e
theorem at_fits_exchange : F[16]? = some q_fits_exchange.fd := rfl
theorem c_fits_exchange {n : Nat} {x0 x1 : D} {d : D} {s s1 : Sto} (e : evSs ⟨callN F n⟩ b_fits_exchange [some x0, some x1, none, none] s = .ret d s1) : callN F (n + 1) 16 [x0, x1] s = .ok (fz s.length s1 d) (s1.take s.length) := call_of (fd := q_fits_exchange.fd) at_fits_exchange rfl e rfl
theorem cn_fits_exchange {n : Nat} {x0 x1 : D} {e1 : En} {s s1 : Sto} (e : evSs ⟨callN F n⟩ b_fits_exchange [some x0, some x1, none, none] s = .nx e1 s1) : callN F (n + 1) 16 [x0, x1] s = .ok .non (s1.take s.length) := call_nx (fd := q_fits_exchange.fd) at_fits_exchange rfl e
theorem at_is_exchange : F[17]? = some q_is_exchange.fd := rfl
theorem c_is_exchange {n : Nat} {x0 x1 : D} {d : D} {s s1 : Sto} (e : evSs ⟨callN F n⟩ b_is_exchange [some x0, some x1] s = .ret d s1) : callN F (n + 1) 17 [x0, x1] s = .ok (fz s.length s1 d) (s1.take s.length) := call_of (fd := q_is_exchange.fd) at_is_exchange rfl e rfl
theorem cn_is_exchange {n : Nat} {x0 x1 : D} {e1 : En} {s s1 : Sto} (e : evSs ⟨callN F n⟩ b_is_exchange [some x0, some x1] s = .nx e1 s1) : callN F (n + 1) 17 [x0, x1] s = .ok .non (s1.take s.length) := call_nx (fd := q_is_exchange.fd) at_is_exchange rfl e
theorem at_need_exchange : F[18]? = some q_need_exchange.fd := rfl
theorem c_need_exchange {n : Nat} {x0 x1 : D} {d : D} {s s1 : Sto} (e : evSs ⟨callN F n⟩ b_need_exchange [some x0, some x1] s = .ret d s1) : callN F (n + 1) 18 [x0, x1] s = .ok (fz s.length s1 d) (s1.take s.length) := call_of (fd := q_need_exchange.fd) at_need_exchange rfl e rfl
theorem cn_need_exchange {n : Nat} {x0 x1 : D} {e1 : En} {s s1 : Sto} (e : evSs ⟨callN F n⟩ b_need_exchange [some x0, some x1] s = .nx e1 s1) : callN F (n + 1) 18 [x0, x1] s = .ok .non (s1.take s.length) := call_nx (fd := q_need_exchange.fd) at_need_exchange rfl e
theorem at_brings : F[19]? = some q_brings.fd := rfl
theorem c_brings {n : Nat} {x0 x1 : D} {d : D} {s s1 : Sto} (e : evSs ⟨callN F n⟩ b_brings [some x0, some x1] s = .ret d s1) : callN F (n + 1) 19 [x0, x1] s = .ok (fz s.length s1 d) (s1.take s.length) := call_of (fd := q_brings.fd) at_brings rfl e rfl
theorem cn_brings {n : Nat} {x0 x1 : D} {e1 : En} {s s1 : Sto} (e : evSs ⟨callN F n⟩ b_brings [some x0, some x1] s = .nx e1 s1) : callN F (n + 1) 19 [x0, x1] s = .ok .non (s1.take s.length) := call_nx (fd := q_brings.fd) at_brings rfl e
theorem at_takes : F[20]? = some q_takes.fd := rfl
theorem c_takes {n : Nat} {x0 x1 : D} {d : D} {s s1 : Sto} (e : evSs ⟨callN F n⟩ b_takes [some x0, some x1] s = .ret d s1) : callN F (n + 1) 20 [x0, x1] s = .ok (fz s.length s1 d) (s1.take s.length) := call_of (fd := q_takes.fd) at_takes rfl e rfl
theorem cn_takes {n : Nat} {x0 x1 : D} {e1 : En} {s s1 : Sto} (e : evSs ⟨callN F n⟩ b_takes [some x0, some x1] s = .nx e1 s1) : callN F (n + 1) 20 [x0, x1] s = .ok .non (s1.take s.length) := call_nx (fd := q_takes.fd) at_takes rfl e
theorem at_has_of : F[21]? = some q_has_of.fd := rfl
theorem c_has_of {n : Nat} {x0 x1 : D} {d : D} {s s1 : Sto} (e : evSs ⟨callN F n⟩ b_has_of [some x0, some x1, none, none] s = .ret d s1) : callN F (n + 1) 21 [x0, x1] s = .ok (fz s.length s1 d) (s1.take s.length) := call_of (fd := q_has_of.fd) at_has_of rfl e rfl
theorem cn_has_of {n : Nat} {x0 x1 : D} {e1 : En} {s s1 : Sto} (e : evSs ⟨callN F n⟩ b_has_of [some x0, some x1, none, none] s = .nx e1 s1) : callN F (n + 1) 21 [x0, x1] s = .ok .non (s1.take s.length) := call_nx (fd := q_has_of.fd) at_has_of rfl e
theorem at_moved_by : F[22]? = some q_moved_by.fd := rfl
theorem c_moved_by {n : Nat} {x0 x1 : D} {d : D} {s s1 : Sto} (e : evSs ⟨callN F n⟩ b_moved_by [some x0, some x1, none, none] s = .ret d s1) : callN F (n + 1) 22 [x0, x1] s = .ok (fz s.length s1 d) (s1.take s.length) := call_of (fd := q_moved_by.fd) at_moved_by rfl e rfl
theorem cn_moved_by {n : Nat} {x0 x1 : D} {e1 : En} {s s1 : Sto} (e : evSs ⟨callN F n⟩ b_moved_by [some x0, some x1, none, none] s = .nx e1 s1) : callN F (n + 1) 22 [x0, x1] s = .ok .non (s1.take s.length) := call_nx (fd := q_moved_by.fd) at_moved_by rfl e
theorem at_made_of : F[23]? = some q_made_of.fd := rfl
theorem c_made_of {n : Nat} {x0 x1 x2 : D} {d : D} {s s1 : Sto} (e : evSs ⟨callN F n⟩ b_made_of [some x0, some x1, some x2] s = .ret d s1) : callN F (n + 1) 23 [x0, x1, x2] s = .ok (fz s.length s1 d) (s1.take s.length) := call_of (fd := q_made_of.fd) at_made_of rfl e rfl
theorem cn_made_of {n : Nat} {x0 x1 x2 : D} {e1 : En} {s s1 : Sto} (e : evSs ⟨callN F n⟩ b_made_of [some x0, some x1, some x2] s = .nx e1 s1) : callN F (n + 1) 23 [x0, x1, x2] s = .ok .non (s1.take s.length) := call_nx (fd := q_made_of.fd) at_made_of rfl e
theorem at__law_cup : F[24]? = some q__law_cup.fd := rfl
theorem c__law_cup {n : Nat} {x0 : D} {d : D} {s s1 : Sto} (e : evSs ⟨callN F n⟩ b__law_cup [some x0, none] s = .ret d s1) (hf : lowLoc s.length d = false) : callN F (n + 1) 24 [x0] s = .ok (fz s.length s1 d) (s1.take s.length) := call_of (fd := q__law_cup.fd) at__law_cup rfl e hf
theorem cn__law_cup {n : Nat} {x0 : D} {e1 : En} {s s1 : Sto} (e : evSs ⟨callN F n⟩ b__law_cup [some x0, none] s = .nx e1 s1) : callN F (n + 1) 24 [x0] s = .ok .non (s1.take s.length) := call_nx (fd := q__law_cup.fd) at__law_cup rfl e
theorem at__law_roll : F[25]? = some q__law_roll.fd := rfl
theorem c__law_roll {n : Nat} {x0 x1 : D} {d : D} {s s1 : Sto} (e : evSs ⟨callN F n⟩ b__law_roll [some x0, some x1, none, none] s = .ret d s1) : callN F (n + 1) 25 [x0, x1] s = .ok (fz s.length s1 d) (s1.take s.length) := call_of (fd := q__law_roll.fd) at__law_roll rfl e rfl
theorem cn__law_roll {n : Nat} {x0 x1 : D} {e1 : En} {s s1 : Sto} (e : evSs ⟨callN F n⟩ b__law_roll [some x0, some x1, none, none] s = .nx e1 s1) : callN F (n + 1) 25 [x0, x1] s = .ok .non (s1.take s.length) := call_nx (fd := q__law_roll.fd) at__law_roll rfl e
theorem at__law_some : F[26]? = some q__law_some.fd := rfl
theorem c__law_some {n : Nat} {x0 x1 : D} {d : D} {s s1 : Sto} (e : evSs ⟨callN F n⟩ b__law_some [some x0, some x1] s = .ret d s1) : callN F (n + 1) 26 [x0, x1] s = .ok (fz s.length s1 d) (s1.take s.length) := call_of (fd := q__law_some.fd) at__law_some rfl e rfl
theorem cn__law_some {n : Nat} {x0 x1 : D} {e1 : En} {s s1 : Sto} (e : evSs ⟨callN F n⟩ b__law_some [some x0, some x1] s = .nx e1 s1) : callN F (n + 1) 26 [x0, x1] s = .ok .non (s1.take s.length) := call_nx (fd := q__law_some.fd) at__law_some rfl e
theorem at__law_like : F[27]? = some q__law_like.fd := rfl
theorem c__law_like {n : Nat} {x0 x1 : D} {d : D} {s s1 : Sto} (e : evSs ⟨callN F n⟩ b__law_like [some x0, some x1, none, none] s = .ret d s1) : callN F (n + 1) 27 [x0, x1] s = .ok (fz s.length s1 d) (s1.take s.length) := call_of (fd := q__law_like.fd) at__law_like rfl e rfl
theorem cn__law_like {n : Nat} {x0 x1 : D} {e1 : En} {s s1 : Sto} (e : evSs ⟨callN F n⟩ b__law_like [some x0, some x1, none, none] s = .nx e1 s1) : callN F (n + 1) 27 [x0, x1] s = .ok .non (s1.take s.length) := call_nx (fd := q__law_like.fd) at__law_like rfl e
theorem at__law_table : F[28]? = some q__law_table.fd := rfl
theorem c__law_table {n : Nat} {x0 : D} {d : D} {s s1 : Sto} (e : evSs ⟨callN F n⟩ b__law_table [some x0, none, none] s = .ret d s1) : callN F (n + 1) 28 [x0] s = .ok (fz s.length s1 d) (s1.take s.length) := call_of (fd := q__law_table.fd) at__law_table rfl e rfl
theorem cn__law_table {n : Nat} {x0 : D} {e1 : En} {s s1 : Sto} (e : evSs ⟨callN F n⟩ b__law_table [some x0, none, none] s = .nx e1 s1) : callN F (n + 1) 28 [x0] s = .ok .non (s1.take s.length) := call_nx (fd := q__law_table.fd) at__law_table rfl e
theorem at__law_add : F[29]? = some q__law_add.fd := rfl
theorem c__law_add {n : Nat} {x0 x1 : D} {d : D} {s s1 : Sto} (e : evSs ⟨callN F n⟩ b__law_add [some x0, some x1, none, none] s = .ret d s1) : callN F (n + 1) 29 [x0, x1] s = .ok (fz s.length s1 d) (s1.take s.length) := call_of (fd := q__law_add.fd) at__law_add rfl e rfl
theorem cn__law_add {n : Nat} {x0 x1 : D} {e1 : En} {s s1 : Sto} (e : evSs ⟨callN F n⟩ b__law_add [some x0, some x1, none, none] s = .nx e1 s1) : callN F (n + 1) 29 [x0, x1] s = .ok .non (s1.take s.length) := call_nx (fd := q__law_add.fd) at__law_add rfl e
theorem at__law_times : F[30]? = some q__law_times.fd := rfl
theorem c__law_times {n : Nat} {x0 x1 : D} {d : D} {s s1 : Sto} (e : evSs ⟨callN F n⟩ b__law_times [some x0, some x1, none] s = .ret d s1) : callN F (n + 1) 30 [x0, x1] s = .ok (fz s.length s1 d) (s1.take s.length) := call_of (fd := q__law_times.fd) at__law_times rfl e rfl
theorem cn__law_times {n : Nat} {x0 x1 : D} {e1 : En} {s s1 : Sto} (e : evSs ⟨callN F n⟩ b__law_times [some x0, some x1, none] s = .nx e1 s1) : callN F (n + 1) 30 [x0, x1] s = .ok .non (s1.take s.length) := call_nx (fd := q__law_times.fd) at__law_times rfl e
theorem at__law_first : F[31]? = some q__law_first.fd := rfl
theorem c__law_first {n : Nat} {x0 x1 : D} {d : D} {s s1 : Sto} (e : evSs ⟨callN F n⟩ b__law_first [some x0, some x1, none, none] s = .ret d s1) : callN F (n + 1) 31 [x0, x1] s = .ok (fz s.length s1 d) (s1.take s.length) := call_of (fd := q__law_first.fd) at__law_first rfl e rfl
theorem cn__law_first {n : Nat} {x0 x1 : D} {e1 : En} {s s1 : Sto} (e : evSs ⟨callN F n⟩ b__law_first [some x0, some x1, none, none] s = .nx e1 s1) : callN F (n + 1) 31 [x0, x1] s = .ok .non (s1.take s.length) := call_nx (fd := q__law_first.fd) at__law_first rfl e
theorem at__law_stock : F[32]? = some q__law_stock.fd := rfl
theorem c__law_stock {n : Nat} {x0 x1 : D} {d : D} {s s1 : Sto} (e : evSs ⟨callN F n⟩ b__law_stock [some x0, some x1, none, none, none] s = .ret d s1) : callN F (n + 1) 32 [x0, x1] s = .ok (fz s.length s1 d) (s1.take s.length) := call_of (fd := q__law_stock.fd) at__law_stock rfl e rfl
theorem cn__law_stock {n : Nat} {x0 x1 : D} {e1 : En} {s s1 : Sto} (e : evSs ⟨callN F n⟩ b__law_stock [some x0, some x1, none, none, none] s = .nx e1 s1) : callN F (n + 1) 32 [x0, x1] s = .ok .non (s1.take s.length) := call_nx (fd := q__law_stock.fd) at__law_stock rfl e
theorem at__law_right : F[33]? = some q__law_right.fd := rfl
theorem c__law_right {n : Nat} {x0 x1 : D} {d : D} {s s1 : Sto} (e : evSs ⟨callN F n⟩ b__law_right [some x0, some x1, none, none, none, none, none, none, none, none, none, none, none, none, none, none, none, none, none, none] s = .ret d s1) : callN F (n + 1) 33 [x0, x1] s = .ok (fz s.length s1 d) (s1.take s.length) := call_of (fd := q__law_right.fd) at__law_right rfl e rfl
theorem cn__law_right {n : Nat} {x0 x1 : D} {e1 : En} {s s1 : Sto} (e : evSs ⟨callN F n⟩ b__law_right [some x0, some x1, none, none, none, none, none, none, none, none, none, none, none, none, none, none, none, none, none, none] s = .nx e1 s1) : callN F (n + 1) 33 [x0, x1] s = .ok .non (s1.take s.length) := call_nx (fd := q__law_right.fd) at__law_right rfl e
theorem at_law : F[34]? = some q_law.fd := rfl
theorem c_law {n : Nat} {x0 : D} {d : D} {s s1 : Sto} (e : evSs ⟨callN F n⟩ b_law [some x0, none, none, none, none, none, none, none, none] s = .ret d s1) : callN F (n + 1) 34 [x0] s = .ok (fz s.length s1 d) (s1.take s.length) := call_of (fd := q_law.fd) at_law rfl e rfl
theorem cn_law {n : Nat} {x0 : D} {e1 : En} {s s1 : Sto} (e : evSs ⟨callN F n⟩ b_law [some x0, none, none, none, none, none, none, none, none] s = .nx e1 s1) : callN F (n + 1) 34 [x0] s = .ok .non (s1.take s.length) := call_nx (fd := q_law.fd) at_law rfl e
end LawTop
end
section
set_option maxRecDepth 100000
set_option maxHeartbeats 400000
namespace LK
open Pv Pm LawTop
open PySem (Str)
theorem w_whole {n : Nat} {v lo hi : Int} {s : Sto} : callN F (n + 1) 0 [.int v, .int lo, .int hi] s = .ok (.bl (decide (lo ≤ v) && decide (v ≤ hi))) s := by
  have e : evSs ⟨callN F n⟩ b_is_whole [some (.int v), some (.int lo), some (.int hi)] s = .ret (.bl (decide (lo ≤ v) && decide (v ≤ hi))) s := by
    by_cases h : lo ≤ v <;> simp [b_is_whole, h]
  rw [c_is_whole e]
  simp
theorem w_tuple {n : Nat} {xs : List D} {lo hi : Int} {s : Sto} : callN F (n + 1) 1 [.tup xs, .int lo, .int hi] s = .ok (.bl (decide (lo ≤ xs.length) && decide ((xs.length : Int) ≤ hi))) s := by
  have e : evSs ⟨callN F n⟩ b_is_tuple_of [some (.tup xs), some (.int lo), some (.int hi)] s = .ret (.bl (decide (lo ≤ xs.length) && decide ((xs.length : Int) ≤ hi))) s := by
    by_cases h : lo ≤ xs.length <;> simp [b_is_tuple_of, h]
  rw [c_is_tuple_of e]
  simp
theorem w_wholes {n : Nat} {ns : List Int} {many lo hi : Int} {s : Sto} (hl : ns.length ≤ big) : callN F (n + 2) 2 [.tup (iD ns), .int many, .int lo, .int hi] s = .ok (.bl ((decide (many ≤ ns.length) && decide ((ns.length : Int) ≤ many)) && ns.all fun v => decide (lo ≤ v) && decide (v ≤ hi))) s := by
  have e : evSs ⟨callN F (n + 1)⟩ b_are_wholes [some (.tup (iD ns)), some (.int many), some (.int lo), some (.int hi), none] s = .ret (.bl ((decide (many ≤ ns.length) && decide ((ns.length : Int) ≤ many)) && ns.all fun v => decide (lo ≤ v) && decide (v ≤ hi))) s := by
    by_cases h : many ≤ ns.length ∧ (ns.length : Int) ≤ many
    · simp [b_are_wholes, w_tuple, w_whole, hl, h]
    · have h2 : (decide (many ≤ ns.length) && decide ((ns.length : Int) ≤ many)) = false := by
        rw [← Bool.not_eq_true, Bool.and_eq_true, decide_eq_true_eq, decide_eq_true_eq]; exact h
      simp only [b_are_wholes, iD_len, ev_ss_cons, ev_ss_nil, ev_s_ret, ev_and, ev_call, ev_cons, ev_nil, ev_v0, ev_v1, bind_ok, w_tuple, h2, truth_bl, Bool.false_eq_true, if_false, thenS_ok, seqS_ret, Bool.false_and]
  rw [c_are_wholes e]
  simp
/-! ### draws -/
def cup (c0 c1 : Int) : D := .lst [.int c0, .int c1]
def CI (s : Sto) : Prop := ∃ c0 c1, 0 ≤ c0 ∧ 0 ≤ c1 ∧ s = [cup c0 c1]
theorem mul_small {i j : Int} (h : -18446744073709551616 < j ∧ j < 18446744073709551616) : mulOk i j = true := by
  unfold mulOk
  have : -(2 ^ 64) < j ∧ j < 2 ^ 64 := ⟨by omega, by omega⟩
  simp [this, h]
theorem pow18 : binD .pow (.int 10) (.int 18) = some (.int 1000000000000000000) := by
  unfold binD
  dsimp only
  rw [if_pos ⟨by decide, by decide, by decide⟩]
  rfl
theorem div_ok {j : Int} (h : 0 < j) (h2 : j < 18446744073709551616) : divOk j = true := by
  unfold divOk
  have h3 : j.natAbs.log2 < 9000 := by
    have : j.natAbs < 2 ^ 64 := by omega
    have := (Nat.log2_lt (n := j.natAbs) (by omega)).mpr this
    omega
  simp [h3]
  omega
theorem divZ_pos {i j : Int} (h : 0 < j) : fdivZ i j = i / j := by unfold fdivZ; rw [if_pos h]
theorem modZ_pos {i j : Int} (h : 0 < j) : modZ i j = i % j := by unfold modZ; rw [if_pos h]
theorem d_mod {i j : Int} (h : 0 < j) : binD .mod (.int i) (.int j) = some (.int (i % j)) := by rw [bin_mod (by omega), modZ_pos h]
theorem d_div {i j : Int} (h : 0 < j) (h2 : j < 18446744073709551616) : binD .fdiv (.int i) (.int j) = some (.int (i / j)) := by rw [bin_div (div_ok h h2), divZ_pos h]
theorem d_mul {i j : Int} (h : -18446744073709551616 < j ∧ j < 18446744073709551616) : binD .mul (.int i) (.int j) = some (.int (i * j)) := bin_mul (mul_small h)
theorem d_mul' {i j : Int} (h : -18446744073709551616 < i ∧ i < 18446744073709551616) : binD .mul (.int i) (.int j) = some (.int (i * j)) := bin_mul (by
  unfold mulOk
  have : -(2 ^ 64) < i ∧ i < 2 ^ 64 := ⟨by omega, by omega⟩
  simp [this, h])
theorem set0 {c0 c1 v : Int} {t : Sto} : setC 0 0 (.int v) (cup c0 c1 :: t) = .ok () (cup v c1 :: t) := by
  simp [setC, cup, setAt, putC, below, belows]
theorem set1 {c0 c1 v : Int} {t : Sto} : setC 0 1 (.int v) (cup c0 c1 :: t) = .ok () (cup c0 v :: t) := by
  simp [setC, cup, setAt, putC, below, belows]
@[simp] theorem at_one {xs : List D} : atD xs 1 = xs[1]? := by simp [atD]
theorem w_rollR {s : Sto} (hs : CI s) {many : Int} (hm : 1 ≤ many) (hm2 : many ≤ 1000000000000000) : ∃ (r : Nat) (s' : Sto), (r : Int) < many ∧ CI s' ∧ ∀ (n : Nat) (t : Sto), callN F (n + 1) 25 [.loc 0, .int many] (s ++ t) = .ok (.int (r : Int)) (s' ++ t) := by
  obtain ⟨c0, c1, h0, h1, rfl⟩ := hs
  by_cases q : 0 < c0
  · have r0 := Int.emod_nonneg c0 (b := many) (by omega)
    have r1 := Int.emod_lt_of_pos c0 (b := many) (by omega)
    refine ⟨(c0 % many).toNat, [cup (c0 / many) c1], by omega, ⟨_, _, Int.ediv_nonneg h0 (by omega), h1, rfl⟩, fun n t => ?_⟩
    rw [Int.toNat_of_nonneg r0]
    have e : evSs ⟨callN F n⟩ b__law_roll [some (.loc 0), some (.int many), none, none] (cup c0 c1 :: t) = .ret (.int (c0 % many)) (cup (c0 / many) c1 :: t) := by
      have g1 : binD .mod (.int c0) (.int many) = some (.int (c0 % many)) := d_mod (by omega)
      have g2 : binD .fdiv (.int c0) (.int many) = some (.int (c0 / many)) := d_div (by omega) (by omega)
      have := set0 (c0 := c0) (c1 := c1) (v := c0 / many) (t := t)
      simp only [cup] at this
      simp [b__law_roll, cup, q, g1, g2, this]
    rw [List.singleton_append, List.singleton_append, c__law_roll e]
    simp
  · have e1 : ∃ d1, d1 = (c1 * 41047 + 10111) % 2147483549 := ⟨_, rfl⟩
    obtain ⟨d1, hd1⟩ := e1
    have p1 : 0 ≤ d1 := by rw [hd1]; exact Int.emod_nonneg _ (by omega)
    have p2 : d1 < 2147483549 := by rw [hd1]; exact Int.emod_lt_of_pos _ (by omega)
    have r0 := Int.emod_nonneg (((d1 * (d1 + 401)) % 2147483489) / 983) (b := many) (by omega)
    have r1 := Int.emod_lt_of_pos (((d1 * (d1 + 401)) % 2147483489) / 983) (b := many) (by omega)
    refine ⟨(((d1 * (d1 + 401)) % 2147483489) / 983 % many).toNat, [cup c0 d1], by omega, ⟨_, _, h0, p1, rfl⟩, fun n t => ?_⟩
    rw [Int.toNat_of_nonneg r0]
    have e : evSs ⟨callN F n⟩ b__law_roll [some (.loc 0), some (.int many), none, none] (cup c0 c1 :: t) = .ret (.int (((d1 * (d1 + 401)) % 2147483489) / 983 % many)) (cup c0 d1 :: t) := by
      have g1 : binD .mul (.int c1) (.int 41047) = some (.int (c1 * 41047)) := d_mul (by omega)
      have g2 : binD .mod (.int (c1 * 41047 + 10111)) (.int 2147483549) = some (.int d1) := by rw [d_mod (by omega), ← hd1]
      have g3 : binD .mul (.int d1) (.int (d1 + 401)) = some (.int (d1 * (d1 + 401))) := d_mul (by omega)
      have g4 : binD .mod (.int (d1 * (d1 + 401))) (.int 2147483489) = some (.int ((d1 * (d1 + 401)) % 2147483489)) := d_mod (by omega)
      have g5 : ∀ z : Int, binD .fdiv (.int z) (.int 983) = some (.int (z / 983)) := fun z => d_div (by omega) (by omega)
      have g6 : ∀ z : Int, binD .mod (.int z) (.int many) = some (.int (z % many)) := fun z => d_mod (by omega)
      have := set1 (c0 := c0) (c1 := c1) (v := d1) (t := t)
      simp only [cup] at this
      simp [b__law_roll, cup, q, g1, g2, this, g3, g4, g5, g6]
    rw [List.singleton_append, List.singleton_append, c__law_roll e]
    simp
theorem w_roll {s : Sto} (hs : CI s) {many : Int} (hm : 1 ≤ many) (hm2 : many ≤ 1000000000000000) : ∃ (r : Nat) (s' : Sto), (r : Int) < many ∧ CI s' ∧ ∀ (n : Nat), callN F (n + 1) 25 [.loc 0, .int many] s = .ok (.int (r : Int)) s' := by
  obtain ⟨r, s', h1, h2, h3⟩ := w_rollR hs hm hm2
  exact ⟨r, s', h1, h2, fun n => by have := h3 n []; rwa [List.append_nil, List.append_nil] at this⟩
theorem w_cup {n : Nat} {s : Sto} {ns : List Int} (hl : ns.length ≤ 63) : ∃ c0 c1, 0 ≤ c0 ∧ 0 ≤ c1 ∧ callN F (n + 1) 24 [.lst (iD ns)] s = .ok (cup c0 c1) s := by
  obtain ⟨v, hv⟩ : ∃ v, (iD ns ++ [D.int 0])[0]? = some (.int v) := by
    cases ns with
    | nil => exact ⟨0, rfl⟩
    | cons a r => exact ⟨a, rfl⟩
  obtain ⟨z, hz⟩ : ∃ z : Int, z = if v < 0 then -v else v := ⟨_, rfl⟩
  have z0 : 0 ≤ z := by rw [hz]; split <;> omega
  have g1 : binD .add (.lst (iD ns)) (.lst [.int 0]) = some (.lst (iD ns ++ [.int 0])) := bin_add_l (by simp; exact big_of (by omega))
  have g2 : binD .fdiv (.int z) (.int 1121) = some (.int (z / 1121)) := d_div (by omega) (by omega)
  have g3 : binD .mul (.int z) (.int 2629) = some (.int (z * 2629)) := d_mul (by omega)
  have g4 : binD .mod (.int (z * 2629 + 8169)) (.int 1998244343) = some (.int ((z * 2629 + 8169) % 1998244343)) := d_mod (by omega)
  have p1 : 0 ≤ (z * 2629 + 8169) % 1998244343 := Int.emod_nonneg _ (by omega)
  have p2 : 0 ≤ z / 1121 := Int.ediv_nonneg z0 (by omega)
  refine ⟨if 1000000000000000000 ≤ z then z / 1121 else 0, (z * 2629 + 8169) % 1998244343 + 552, ?_, by omega, ?_⟩
  · split <;> omega
  · have e : evSs ⟨callN F n⟩ b__law_cup [some (.lst (iD ns)), none] s = .ret (cup (if 1000000000000000000 ≤ z then z / 1121 else 0) ((z * 2629 + 8169) % 1998244343 + 552)) s := by
      unfold b__law_cup
      rw [ev_ss_cons]
      have s1 : evS ⟨callN F n⟩ (.asg (.nm 1) (.bi .abs (.cons (.idx (.bin .add (.bi .list (.cons (.var 0) .nil)) (.lst (.cons (.lit (.int 0)) .nil))) (.lit (.int 0))) .nil))) [some (.lst (iD ns)), none] s = .nx [some (.lst (iD ns)), some (.int z)] s := by
        rw [hz]
        simp only [ev_s_asg, ev_bi, ev_cons, ev_nil, ev_idx, ev_bin, ev_v0, bind_ok, List.map_cons, List.map_nil, rd_lst', bi_lst_l, lift_some, ev_lst, ev_lit, g1, ix_l, at_zero, hv, rd_int', bi_abs, ev_t_nm, toS_ok, List.set]
      rw [s1, seqS_nx]
      by_cases q : 1000000000000000000 ≤ z <;> simp [q, pow18, g2, g3, g4, cup]
    rw [c__law_cup e rfl, fz_id rfl]
    simp
/-! ### a value is like itself -/
theorem zip_self : ∀ xs : List D, zipD xs xs = xs.map fun x => .tup [x, x]
  | [] => rfl
  | x :: r => by simp [zipD, zip_self r]
def lk : Nat → D → Bool
  | _, .non => true
  | _, .bl _ => true
  | _, .int _ => true
  | _, .str x => x.cps.all (· < 0x110000)
  | 0, _ => false
  | k + 1, .tup xs => decide (xs.length ≤ 1000000) && xs.all (lk k)
  | k + 1, .lst xs => decide (xs.length ≤ 1000000) && xs.all (lk k)
  | _, _ => false
theorem loopA_fo {α : Type} {body : α → Sto → Out (Option D)} {s : Sto} : ∀ {xs : List α}, (∀ x ∈ xs, body x s = .ok none s) → loopA body xs s = .ok [] s
  | [], _ => rfl
  | x :: r, h => by
    simp only [loopA]
    rw [h x (by simp), bind_ok, loopA_fo fun y hy => h y (by simp [hy])]
    rfl
theorem w_like : ∀ (k : Nat) (d : D), lk k d = true → ∀ {n : Nat} {s : Sto}, callN F (n + k + 1) 27 [d, d] s = .ok (.bl true) s := by
  intro k
  induction k with
  | zero =>
    intro d hd n s
    cases d with
    | non => rw [c__law_like (d := .bl true) (s1 := s) (by simp [b__law_like])]; simp
    | bl b => rw [c__law_like (d := .bl true) (s1 := s) (by simp [b__law_like])]; simp
    | int i => rw [c__law_like (d := .bl true) (s1 := s) (by simp [b__law_like])]; simp
    | str x =>
      have hp : plain 60 (.str x) = true := by simpa [lk, plain] using hd
      have hv : eqv (.str x) (.str x) = true := by simp [eqv]
      rw [c__law_like (d := .bl true) (s1 := s) (by simp [b__law_like, hp, hv])]; simp
    | _ => simp [lk] at hd
  | succ k ih =>
    intro d hd n s
    cases d with
    | non => rw [c__law_like (d := .bl true) (s1 := s) (by simp [b__law_like])]; simp
    | bl b => rw [c__law_like (d := .bl true) (s1 := s) (by simp [b__law_like])]; simp
    | int i => rw [c__law_like (d := .bl true) (s1 := s) (by simp [b__law_like])]; simp
    | str x =>
      have hp : plain 60 (.str x) = true := by simpa [lk, plain] using hd
      have hv : eqv (.str x) (.str x) = true := by simp [eqv]
      rw [c__law_like (d := .bl true) (s1 := s) (by simp [b__law_like, hp, hv])]; simp
    | tup xs =>
      simp only [lk, Bool.and_eq_true, decide_eq_true_eq, List.all_eq_true] at hd
      have e : evSs ⟨callN F (n + k + 1)⟩ b__law_like [some (.tup xs), some (.tup xs), none, none] s = .ret (.bl true) s := by
        simp [b__law_like, zip_self]
        rw [loopA_fo (fun x hx => by simp [ih x (hd.2 x hx)])]
        simp
      rw [show n + (k + 1) + 1 = n + k + 1 + 1 by omega, c__law_like e]
      simp
    | lst xs =>
      simp only [lk, Bool.and_eq_true, decide_eq_true_eq, List.all_eq_true] at hd
      have e : evSs ⟨callN F (n + k + 1)⟩ b__law_like [some (.lst xs), some (.lst xs), none, none] s = .ret (.bl true) s := by
        simp [b__law_like, zip_self]
        rw [loopA_fo (fun x hx => by simp [ih x (hd.2 x hx)])]
        simp
      rw [show n + (k + 1) + 1 = n + k + 1 + 1 by omega, c__law_like e]
      simp
    | _ => simp [lk] at hd
theorem lk_iD {k : Nat} {ns : List Int} : (iD ns).all (lk k) = true := by
  simp only [List.all_eq_true, iD, List.mem_map]
  rintro d ⟨z, _, rfl⟩
  simp [lk]
theorem lk_tI {k : Nat} {ns : List Int} (h : ns.length ≤ 1000000) : lk (k + 1) (.tup (iD ns)) = true := by simp only [lk, iD_len, lk_iD, Bool.and_true, decide_eq_true_eq]; exact h
theorem like_true {k : Nat} {d d' : D} (h : lk k d = true) (e : d = d') {n : Nat} {s : Sto} : callN F (n + k + 1) 27 [d, d'] s = .ok (.bl true) s := by
  subst e
  exact w_like k d h
/-! ### one of several things -/
theorem w_some {s : Sto} (hs : CI s) {xs : List D} (h : xs ≠ []) (hl : xs.length ≤ big) : ∃ (r : Nat) (hr : r < xs.length) (s' : Sto), CI s' ∧ ∀ n : Nat, callN F (n + 2) 26 [.loc 0, .tup xs] s = .ok (fz s.length s' xs[r]) (s'.take s.length) := by
  have p : 0 < xs.length := List.length_pos_iff.mpr h
  have hb : big = 16777216 := rfl
  obtain ⟨r, s', h1, h2, h3⟩ := w_roll hs (many := (xs.length : Nat)) (by omega) (by omega)
  have hr : r < xs.length := by omega
  refine ⟨r, hr, s', h2, fun n => ?_⟩
  have e : evSs ⟨callN F (n + 1)⟩ b__law_some [some (.loc 0), some (.tup xs)] s = .ret xs[r] s' := by
    simp [b__law_some, h3, List.getElem?_eq_getElem hr]
  rw [c__law_some e]
/-- one of a list of things without cells -/
theorem w_someR {s : Sto} (hs : CI s) {xs : List D} (h : xs ≠ []) (hl : xs.length ≤ big) (hp : nolocs xs = true) {k : Bool} : ∃ x ∈ xs, ∃ (s' : Sto), CI s' ∧ ∀ (n : Nat) (t : Sto), callN F (n + 2) 26 [.loc 0, if k then .lst xs else .tup xs] (s ++ t) = .ok x (s' ++ t) := by
  have p : 0 < xs.length := List.length_pos_iff.mpr h
  have hb : big = 16777216 := rfl
  obtain ⟨r, s', h1, h2, h3⟩ := w_rollR hs (many := (xs.length : Nat)) (by omega) (by omega)
  have hr : r < xs.length := by omega
  refine ⟨xs[r], List.getElem_mem hr, s', h2, fun n t => ?_⟩
  obtain ⟨a0, a1, _, _, rfl⟩ := hs
  obtain ⟨b0, b1, _, _, rfl⟩ := h2
  have e : evSs ⟨callN F (n + 1)⟩ b__law_some [some (.loc 0), some (if k then .lst xs else .tup xs)] ([cup a0 a1] ++ t) = .ret xs[r] ([cup b0 b1] ++ t) := by
    cases k <;> simp [b__law_some] <;> (have := h3 n t; simp at this; simp [this, List.getElem?_eq_getElem hr])
  rw [c__law_some e, fz_id (nolocs_iff.mp hp _ (List.getElem_mem hr))]
  simp
end LK
end
section
set_option maxRecDepth 100000
set_option maxHeartbeats 400000
namespace K52
open Pv Pm LawTop LK
open PySem (Str)
def okT (rows : List Vc) : Prop := (∃ r, rows = [r] ∧ 2 ≤ r.length ∧ r.length ≤ 3 ∧ ∀ v ∈ r, 1 ≤ v ∧ v ≤ 6) ∨ (∃ o m, rows = [o, m] ∧ 3 ≤ o.length ∧ o.length ≤ 4 ∧ (∀ v ∈ o, v = 1) ∧ m.length = o.length ∧ ∀ v ∈ m, 0 ≤ v ∧ v ≤ 4)
def r0 (rows : List Vc) : Vc := rows.headD []
def most (rows : List Vc) : Int := if rows.length = 1 then 36 else 8
def tD (rows : List Vc) : D := .tup (lD rows)
section
variable {n : Nat} {s : Sto} {rows : List Vc}
theorem all_in {r : Vc} {lo hi : Int} (h : ∀ v ∈ r, lo ≤ v ∧ v ≤ hi) : (r.all fun v => decide (lo ≤ v) && decide (v ≤ hi)) = true := by
  simp only [List.all_eq_true, Bool.and_eq_true, decide_eq_true_eq]; exact h
theorem w_istable (h : okT rows) : callN F (n + 4) 3 [tD rows] s = .ok (.bl true) s := by
  rcases h with ⟨r, rfl, h1, h2, h3⟩ | ⟨o, m, rfl, h1, h2, h3, h4, h5⟩
  · have q1 : (2 : Int) ≤ r.length := by omega
    have q2 : (r.length : Int) ≤ 3 := by omega
    have q3 : r.length ≤ big := big_of (by omega)
    have e : evSs ⟨callN F (n + 3)⟩ b_is_table [some (tD [r])] s = .ret (.bl true) s := by
      simp [b_is_table, tD, lD_cons, w_tuple, w_wholes q3, q1, q2]
      exact h3
    rw [c_is_table e]; simp
  · have q1 : (3 : Int) ≤ o.length := by omega
    have q2 : (o.length : Int) ≤ 4 := by omega
    have q3 : o.length ≤ big := big_of (by omega)
    have q4 : m.length ≤ big := big_of (by omega)
    have q5 : ∀ x ∈ o, 1 ≤ x ∧ x ≤ 1 := fun x hx => by have := h3 x hx; omega
    have e : evSs ⟨callN F (n + 3)⟩ b_is_table [some (tD [o, m])] s = .ret (.bl true) s := by
      simp [b_is_table, tD, lD_cons, w_tuple, w_wholes q3, w_wholes q4, q1, q2, all_in q5, h4]
      exact h5
    rw [c_is_table e]; simp
theorem w_need (h : okT rows) : callN F (n + 5) 4 [tD rows] s = .ok .non s := by
  have e : evSs ⟨callN F (n + 4)⟩ b_need_table [some (tD rows)] s = .nx [some (tD rows)] s := by simp [b_need_table, w_istable h]
  rw [cn_need_table e]; simp
theorem w_most : callN F (n + 1) 5 [tD rows] s = .ok (.int (most rows)) s := by
  have e : evSs ⟨callN F n⟩ b_most_of [some (tD rows)] s = .ret (.int (most rows)) s := by
    unfold most
    by_cases q : rows.length = 1
    · have q' : (rows.length : Int) = 1 := by omega
      simp [b_most_of, tD, q]
    · have q' : ¬ (rows.length : Int) = 1 := by omega
      simp [b_most_of, tD]
      rw [if_neg q']
      simp [q]
  rw [c_most_of e]; simp
theorem okT_small (h : okT rows) : ∀ r ∈ rows, r.length ≤ 4 ∧ ∀ v ∈ r, 0 ≤ v ∧ v ≤ 6 := by
  rcases h with ⟨r, rfl, h1, h2, h3⟩ | ⟨o, m, rfl, h1, h2, h3, h4, h5⟩
  · intro r hr
    cases List.mem_singleton.mp hr
    exact ⟨by omega, fun v hv => by have := h3 v hv; omega⟩
  · intro r hr
    rcases List.mem_cons.mp hr with e | e
    · subst e; exact ⟨h2, fun v hv => by have := h3 v hv; omega⟩
    · cases List.mem_singleton.mp e
      exact ⟨by omega, fun v hv => by have := h5 v hv; omega⟩
theorem okT_len (h : okT rows) : rows.length ≤ 2 ∧ 1 ≤ rows.length := by
  rcases h with ⟨r, rfl, _⟩ | ⟨o, m, rfl, _⟩ <;> simp
theorem okT_eq (h : okT rows) : ∀ r ∈ rows, r.length = (r0 rows).length := by
  rcases h with ⟨r, rfl, h1, h2, h3⟩ | ⟨o, m, rfl, h1, h2, h3, h4, h5⟩
  · intro r hr; cases List.mem_singleton.mp hr; rfl
  · intro r hr
    rcases List.mem_cons.mp hr with e | e
    · subst e; rfl
    · cases List.mem_singleton.mp e; exact h4
theorem okT_r0 (h : okT rows) : 2 ≤ (r0 rows).length ∧ (r0 rows).length ≤ 4 ∧ (∀ v ∈ r0 rows, 1 ≤ v ∧ v ≤ 6) ∧ ∃ t, rows = r0 rows :: t := by
  rcases h with ⟨r, rfl, h1, h2, h3⟩ | ⟨o, m, rfl, h1, h2, h3, h4, h5⟩
  · exact ⟨h1, by show r.length ≤ 4; omega, h3, [], rfl⟩
  · exact ⟨by show 2 ≤ o.length; omega, h2, fun v hv => by have := h3 v hv; omega, [m], rfl⟩
theorem w_tot (h : okT rows) {st : Vc} : callN F (n + 1) 6 [tD rows, .tup (iD st)] s = .ok (.tup (iD (dots rows st))) s := by
  have hb : rows.length ≤ big := big_of (by have := okT_len h; omega)
  have e : evSs ⟨callN F n⟩ b_totals_of_piles [some (tD rows), some (.tup (iD st)), none, none, none] s = .ret (.tup (iD (dots rows st))) s := by
    simp [b_totals_of_piles, tD]
    have inner : ∀ r ∈ rows, ∀ s : Sto, evE ⟨callN F n⟩ (.bi .sum (.cons (.comp [("each", 3), ("many", 4)] (.tp (.cons (.nm 3) (.cons (.nm 4) .nil))) (.zip (.var 2) (.var 1)) .nil (.bin .mul (.var 3) (.var 4))) .nil)) [some (.tup (lD rows)), some (.tup (iD st)), some (.tup (iD r)), none, none] s = .ok (.int (dot r st)) s := by
      intro r hr s
      have hr2 := okT_small h r hr
      simp
      rw [loopA_congr rfl rfl (g := fun p s => .ok (some (.int (p.1 * p.2))) s) (fun p hp s => by
        have := hr2.2 p.1 (List.of_mem_zip hp).1
        simp [d_mul' (i := p.1) (j := p.2) (by omega)])]
      have hl : (r.zip st).length ≤ big := big_of (by simp; omega)
      simp at hl
      simp [hl, dot]
    rw [loopA_congr rfl rfl (g := fun r s => .ok (some (.int (dot r st))) s) (fun r hr s => by
      have := inner r hr s
      simp at this
      simp [this])]
    simp [hb, dots]
  rw [c_totals_of_piles e]; simp
/-- fits: a list of so many numbers -/
def FS (rows : List Vc) (st : Vc) : Bool := (st.all fun v => decide (0 ≤ v) && decide (v ≤ 36)) && decide (dot (r0 rows) st ≤ most rows)
theorem w_fits (h : okT rows) {st : Vc} (hl : st.length = (r0 rows).length) : callN F (n + 3) 7 [tD rows, .tup (iD st)] s = .ok (.bl (FS rows st)) s := by
  obtain ⟨h1, h2, h3, t, ht⟩ := okT_r0 h
  have q : st.length ≤ big := big_of (by omega)
  have e : evSs ⟨callN F (n + 2)⟩ b_fits_stock [some (tD rows), some (.tup (iD st))] s = .ret (.bl (FS rows st)) s := by
    have i1 : ∀ s : Sto, idxD (rd s (tD rows)) (.int 0) = some (.tup (iD (r0 rows))) := fun s => by rw [ht]; simp [tD, lD_cons, r0]
    have i2 : (iD (dots rows st))[0]? = some (.int (dot (r0 rows) st)) := by rw [ht]; simp [dots, iD_cons, r0]
    unfold FS
    cases hc : st.all fun v => decide (0 ≤ v) && decide (v ≤ 36) <;>
      simp [b_fits_stock, i1, w_wholes q, hl, hc, w_tot h, i2, w_most]
  rw [c_fits_stock e]; simp
theorem w_isstock (h : okT rows) {st : Vc} (hl : st.length = (r0 rows).length) : callN F (n + 6) 8 [tD rows, .tup (iD st)] s = .ok (.bl (FS rows st)) s := by
  have e : evSs ⟨callN F (n + 5)⟩ b_is_stock [some (tD rows), some (.tup (iD st))] s = .ret (.bl (FS rows st)) s := by simp [b_is_stock, w_need h, w_fits h hl]
  rw [c_is_stock e]; simp
theorem w_needstock (h : okT rows) {st : Vc} (hl : st.length = (r0 rows).length) (hf : FS rows st = true) : callN F (n + 6) 9 [tD rows, .tup (iD st)] s = .ok .non s := by
  have e : evSs ⟨callN F (n + 5)⟩ b_need_stock [some (tD rows), some (.tup (iD st))] s = .nx [some (tD rows), some (.tup (iD st))] s := by simp [b_need_stock, w_need h, w_fits h hl, hf]
  rw [cn_need_stock e]; simp
theorem w_totals (h : okT rows) {st : Vc} (hl : st.length = (r0 rows).length) (hf : FS rows st = true) : callN F (n + 7) 10 [tD rows, .tup (iD st)] s = .ok (.tup (iD (dots rows st))) s := by
  have e : evSs ⟨callN F (n + 6)⟩ b_totals_of [some (tD rows), some (.tup (iD st))] s = .ret (.tup (iD (dots rows st))) s := by simp [b_totals_of, w_needstock h hl hf, w_tot h]
  rw [c_totals_of e]; simp
theorem w_brings {a : Vc} (hl : a.length ≤ big) : callN F (n + 1) 14 [.tup (iD a)] s = .ok (.tup (iD (pl a))) s := by
  have e : evSs ⟨callN F n⟩ b_brings_of [some (.tup (iD a)), none] s = .ret (.tup (iD (pl a))) s := by
    simp [b_brings_of, hl, pl]
    rfl
  rw [c_brings_of e]; simp
theorem w_takes {a : Vc} (hl : a.length ≤ big) : callN F (n + 1) 15 [.tup (iD a)] s = .ok (.tup (iD (ng a))) s := by
  have e : evSs ⟨callN F n⟩ b_takes_of [some (.tup (iD a)), none] s = .ret (.tup (iD (ng a))) s := by
    simp [b_takes_of, hl, ng]
    congr 1
    refine List.map_congr_left fun x _ => ?_
    unfold pz
    split <;> split <;> omega
  rw [c_takes_of e]; simp
def FX (rows : List Vc) (a : Vc) : Bool := (a.all fun v => decide (-36 ≤ v) && decide (v ≤ 36)) && (FS rows (pl a) && (FS rows (ng a) && decide (dots rows (pl a) = dots rows (ng a))))
theorem w_fitsx (h : okT rows) {a : Vc} (hl : a.length = (r0 rows).length) : callN F (n + 4) 16 [tD rows, .tup (iD a)] s = .ok (.bl (FX rows a)) s := by
  obtain ⟨h1, h2, h3, t, ht⟩ := okT_r0 h
  have q : a.length ≤ big := big_of (by omega)
  have hl1 : (pl a).length = (r0 rows).length := by rw [len_pl]; exact hl
  have hl2 : (ng a).length = (r0 rows).length := by rw [len_ng]; exact hl
  have i1 : ∀ s : Sto, idxD (rd s (tD rows)) (.int 0) = some (.tup (iD (r0 rows))) := fun s => by rw [ht]; simp [tD, lD_cons, r0]
  have e : evSs ⟨callN F (n + 3)⟩ b_fits_exchange [some (tD rows), some (.tup (iD a)), none, none] s = .ret (.bl (FX rows a)) s := by
    unfold FX
    cases hc : a.all fun v => decide (-36 ≤ v) && decide (v ≤ 36) <;> cases p1 : FS rows (pl a) <;> cases p2 : FS rows (ng a) <;>
      simp [b_fits_exchange, i1, w_wholes q, hl, hc, w_brings q, w_takes q, w_fits h hl1, w_fits h hl2, p1, p2, w_tot h]
  rw [c_fits_exchange e]; simp
theorem w_isx (h : okT rows) {a : Vc} (hl : a.length = (r0 rows).length) : callN F (n + 6) 17 [tD rows, .tup (iD a)] s = .ok (.bl (FX rows a)) s := by
  have e : evSs ⟨callN F (n + 5)⟩ b_is_exchange [some (tD rows), some (.tup (iD a))] s = .ret (.bl (FX rows a)) s := by simp [b_is_exchange, w_need h, w_fitsx h hl]
  rw [c_is_exchange e]; simp
theorem w_needx (h : okT rows) {a : Vc} (hl : a.length = (r0 rows).length) (hf : FX rows a = true) : callN F (n + 6) 18 [tD rows, .tup (iD a)] s = .ok .non s := by
  have e : evSs ⟨callN F (n + 5)⟩ b_need_exchange [some (tD rows), some (.tup (iD a))] s = .nx [some (tD rows), some (.tup (iD a))] s := by simp [b_need_exchange, w_need h, w_fitsx h hl, hf]
  rw [cn_need_exchange e]; simp
theorem w_br (h : okT rows) {a : Vc} (hl : a.length = (r0 rows).length) (hf : FX rows a = true) : callN F (n + 7) 19 [tD rows, .tup (iD a)] s = .ok (.tup (iD (pl a))) s := by
  have q : a.length ≤ big := big_of (by have := okT_r0 h; omega)
  have e : evSs ⟨callN F (n + 6)⟩ b_brings [some (tD rows), some (.tup (iD a))] s = .ret (.tup (iD (pl a))) s := by simp [b_brings, w_needx h hl hf, w_brings q]
  rw [c_brings e]; simp
theorem w_tk (h : okT rows) {a : Vc} (hl : a.length = (r0 rows).length) (hf : FX rows a = true) : callN F (n + 7) 20 [tD rows, .tup (iD a)] s = .ok (.tup (iD (ng a))) s := by
  have q : a.length ≤ big := big_of (by have := okT_r0 h; omega)
  have e : evSs ⟨callN F (n + 6)⟩ b_takes [some (tD rows), some (.tup (iD a))] s = .ret (.tup (iD (ng a))) s := by simp [b_takes, w_needx h hl hf, w_takes q]
  rw [c_takes e]; simp
def has (st a : Vc) : Bool := (st.zip a).all fun p => decide (0 ≤ p.1 + p.2) || decide (0 ≤ p.2)
theorem w_has {st a : Vc} (hl : st.length ≤ big) : callN F (n + 1) 21 [.tup (iD st), .tup (iD a)] s = .ok (.bl (has st a)) s := by
  have e : evSs ⟨callN F n⟩ b_has_of [some (.tup (iD st)), some (.tup (iD a)), none, none] s = .ret (.bl (has st a)) s := by
    simp [b_has_of]
    rw [loopA_congr rfl rfl (g := fun p s => .ok (some (.bl (decide (0 ≤ p.1 + p.2) || decide (0 ≤ p.2)))) s) (fun p hp s => by
      by_cases q : 0 ≤ p.1 + p.2 <;> simp [q])]
    have hz : (st.zip a).length ≤ big := Nat.le_trans (by simp; omega) hl
    simp at hz
    simp [hz, has, List.all_map, Function.comp_def]
  rw [c_has_of e]; simp
theorem w_moved {st a : Vc} (hl : st.length ≤ big) : callN F (n + 1) 22 [.tup (iD st), .tup (iD a)] s = .ok (.tup (iD (add st a))) s := by
  have e : evSs ⟨callN F n⟩ b_moved_by [some (.tup (iD st)), some (.tup (iD a)), none, none] s = .ret (.tup (iD (add st a))) s := by
    have hz : (st.zip a).length ≤ big := Nat.le_trans (by simp; omega) hl
    simp at hz
    simp [b_moved_by, hz, add]
  rw [c_moved_by e]; simp
theorem w_made (h : okT rows) {st a : Vc} (hl : st.length = (r0 rows).length) (hf : FS rows st = true) (hl2 : a.length = (r0 rows).length) (hx : FX rows a = true) (hh : has st a = true) : callN F (n + 7) 23 [tD rows, .tup (iD st), .tup (iD a)] s = .ok (.tup (iD (add st a))) s := by
  have q : st.length ≤ big := big_of (by have := okT_r0 h; omega)
  have e : evSs ⟨callN F (n + 6)⟩ b_made_of [some (tD rows), some (.tup (iD st)), some (.tup (iD a))] s = .ret (.tup (iD (add st a))) s := by simp [b_made_of, w_needstock h hl hf, w_needx h hl2 hx, w_has q, hh, w_moved q]
  rw [c_made_of e]; simp
/-- it does not fit: raised -/
theorem w_made_no (h : okT rows) {st a : Vc} (hl : st.length = (r0 rows).length) (hf : FS rows st = true) (hl2 : a.length = (r0 rows).length) (hx : FX rows a = true) (hh : has st a = false) : callN F (n + 7) 23 [tD rows, .tup (iD st), .tup (iD a)] s = .exc 5 .non s := by
  have q : st.length ≤ big := big_of (by have := okT_r0 h; omega)
  have e : evSs ⟨callN F (n + 6)⟩ b_made_of [some (tD rows), some (.tup (iD st)), some (.tup (iD a))] s = .exc 5 .non [some (tD rows), some (.tup (iD st)), some (.tup (iD a))] s := by simp [b_made_of, w_needstock h hl hf, w_needx h hl2 hx, w_has q, hh]
  rw [call_exc (fd := q_made_of.fd) at_made_of rfl e]; simp
theorem w_add {a b : Vc} (hl : a.length ≤ big) : callN F (n + 1) 29 [.tup (iD a), .tup (iD b)] s = .ok (.tup (iD (add a b))) s := by
  have e : evSs ⟨callN F n⟩ b__law_add [some (.tup (iD a)), some (.tup (iD b)), none, none] s = .ret (.tup (iD (add a b))) s := by
    have hz : (a.zip b).length ≤ big := Nat.le_trans (by simp; omega) hl
    simp at hz
    simp [b__law_add, hz, add]
  rw [c__law_add e]; simp
theorem w_tms {k : Int} {a : Vc} (hk : -1000 ≤ k ∧ k ≤ 1000) (hl : a.length ≤ big) : callN F (n + 1) 30 [.int k, .tup (iD a)] s = .ok (.tup (iD (tms k a))) s := by
  have e : evSs ⟨callN F n⟩ b__law_times [some (.int k), some (.tup (iD a)), none] s = .ret (.tup (iD (tms k a))) s := by
    have hm : ∀ j, binD .mul (.int k) (.int j) = some (.int (k * j)) := fun j => d_mul' (by omega)
    simp [b__law_times, hl, tms, hm]
  rw [c__law_times e]; simp
theorem w_first (h : okT rows) {st : Vc} : callN F (n + 1) 31 [tD rows, .tup (iD st)] s = .ok (.int (dot (r0 rows) st)) s := by
  obtain ⟨h1, h2, h3, t, ht⟩ := okT_r0 h
  have i1 : ∀ s : Sto, idxD (rd s (tD rows)) (.int 0) = some (.tup (iD (r0 rows))) := fun s => by rw [ht]; simp [tD, lD_cons, r0]
  have e : evSs ⟨callN F n⟩ b__law_first [some (tD rows), some (.tup (iD st)), none, none] s = .ret (.int (dot (r0 rows) st)) s := by
    simp [b__law_first, i1]
    rw [loopA_congr rfl rfl (g := fun p s => .ok (some (.int (p.1 * p.2))) s) (fun p hp s => by
      have := h3 p.1 (List.of_mem_zip hp).1
      simp [d_mul' (i := p.1) (j := p.2) (by omega)])]
    have hl : ((r0 rows).zip st).length ≤ big := big_of (by simp; omega)
    simp at hl
    simp [hl, dot]
  rw [c__law_first e]; simp
end
end K52
end
section
set_option maxRecDepth 100000
set_option maxHeartbeats 1000000
namespace K52
open Pv Pm LawTop LK
open PySem (Str)
abbrev Pt := Vc × Int
def ptD (p : Pt) : D := .tup [.tup (iD p.1), .int p.2]
def grow (lt : Bool) (w : Int) (p : Pt) : List Pt :=
  if lt then (List.range (p.2 / w + 1).toNat).map fun (k : Nat) => (p.1 ++ [(k : Int)], p.2 - (k : Int) * w)
  else if p.2 % w = 0 then [(p.1 ++ [p.2 / w], 0)] else []
theorem belows_pts {m : Nat} : ∀ l : List Pt, belows m (l.map ptD) = true
  | [] => rfl
  | p :: r => by
    have := iD_below (n := m) (ns := p.1)
    simp [belows, ptD, below, this, belows_pts r]
theorem grow_len {lt : Bool} {w : Int} {p : Pt} (hw : 1 ≤ w) (h0 : 0 ≤ p.2) (h : p.2 ≤ 36) : (grow lt w p).length ≤ 37 := by
  unfold grow
  have hd : p.2 / w ≤ 36 := Int.le_trans (Int.ediv_le_self w h0) h
  split
  · simp; omega
  · split <;> simp
section
variable {n : Nat} {s : Sto} {rows : List Vc}
theorem iD_snoc {a : Vc} {k : Int} : iD a ++ [.int k] = iD (a ++ [k]) := by simp [iD_app, iD_cons]
def inB : CSs := (.cons (.ife (.cmp .lt (.var 4) (.var 3)) (.cons (.ext (.var 6) (.comp [("many", 9)] (.nm 9) (.range (.cons (.bin .add (.bin .fdiv (.var 8) (.var 5)) (.lit (.int 1))) .nil)) .nil (.tup (.cons (.bin .add (.var 7) (.tup (.cons (.var 9) .nil))) (.cons (.bin .sub (.var 8) (.bin .mul (.var 9) (.var 5))) .nil))))) .nil) (.cons (.ife (.cmp .eq (.bin .mod (.var 8) (.var 5)) (.lit (.int 0))) (.cons (.app (.var 6) (.tup (.cons (.bin .add (.var 7) (.tup (.cons (.bin .fdiv (.var 8) (.var 5)) .nil))) (.cons (.lit (.int 0)) .nil)))) .nil) .nil) .nil)) .nil)
theorem below_pt {m : Nat} {p : Pt} : below m (ptD p) = true := by
  have := iD_below (n := m) (ns := p.1)
  simp [belows, ptD, below, this]
theorem yd_turn {c : Cl} {T tot fv x7 x8 x9 : Option D} {last at_ w : Int} {p : Pt} {acc : List Pt} (hw : 1 ≤ w ∧ w ≤ 6) (hp : 0 ≤ p.2 ∧ p.2 ≤ 36) (hl : p.1.length ≤ 100) (ha : acc.length + 37 < big) :
    ∃ y7 y8 y9, thenS (evT c (.tp (.cons (.nm 7) (.cons (.nm 8) .nil))) (ptD p) [T, tot, fv, some (.int last), some (.int at_), some (.int w), some (.loc s.length), x7, x8, x9] (s ++ [.lst (acc.map ptD)])) [T, tot, fv, some (.int last), some (.int at_), some (.int w), some (.loc s.length), x7, x8, x9] (fun e1 s1 => evSs c inB e1 s1) =
      .nx [T, tot, fv, some (.int last), some (.int at_), some (.int w), some (.loc s.length), y7, y8, y9] (s ++ [.lst ((acc ++ grow (decide (at_ < last)) w p).map ptD)]) := by
  refine ⟨some (.tup (iD p.1)), some (.int p.2), x9, ?_⟩
  have hg := grow_len (lt := decide (at_ < last)) (p := p) hw.1 hp.1 hp.2
  have d0 : 0 ≤ p.2 / w := Int.ediv_nonneg hp.1 (by omega)
  have d1 : p.2 / w ≤ 36 := Int.le_trans (Int.ediv_le_self w hp.1) hp.2
  obtain ⟨m, hm⟩ : ∃ m : Nat, p.2 / w + 1 = (m : Int) := ⟨(p.2 / w + 1).toNat, by omega⟩
  have hb : big = 16777216 := rfl
  have g1 : binD .fdiv (.int p.2) (.int w) = some (.int (p.2 / w)) := d_div (by omega) (by omega)
  have g2 : binD .mod (.int p.2) (.int w) = some (.int (p.2 % w)) := d_mod (by omega)
  have g3 : ∀ k : Int, binD .mul (.int k) (.int w) = some (.int (k * w)) := fun k => d_mul (by omega)
  have g4 : ∀ k : Int, binD .add (.tup (iD p.1)) (.tup [.int k]) = some (.tup (iD (p.1 ++ [k]))) := fun k => by
    rw [bin_add_t (by simp; omega), iD_snoc]
  by_cases q : at_ < last
  · have e1 : grow (decide (at_ < last)) w p = (List.range m).map fun (k : Nat) => (p.1 ++ [(k : Int)], p.2 - (k : Int) * w) := by
      simp only [q, decide_true, grow, if_true, hm, Int.toNat_natCast]
    rw [e1] at hg ⊢
    have hmb : m ≤ big := by omega
    have e2 := ext_last (s := s) (xs := acc.map ptD) (ys := ((List.range m).map fun (k : Nat) => (p.1 ++ [(k : Int)], p.2 - (k : Int) * w)).map ptD) (by simp; omega) (belows_pts _) (belows_pts _)
    simp only [List.map_map, Function.comp_def, ptD] at e2
    simp [inB, ptD, q, g1, hm, rng1 (show m ≤ 5000000 by omega), g3, g4, hmb]
    rw [e2]
    simp [List.map_map, Function.comp_def, ptD]
  · have e1 : grow (decide (at_ < last)) w p = if p.2 % w = 0 then [(p.1 ++ [p.2 / w], 0)] else [] := by
      simp only [q, decide_false, grow, Bool.false_eq_true, if_false]
    rw [e1]
    by_cases z : p.2 % w = 0
    · have e2 := app_last (s := s) (xs := acc.map ptD) (d := ptD (p.1 ++ [p.2 / w], 0)) (by simp; omega) below_pt (belows_pts _)
      simp only [ptD] at e2
      simp [inB, ptD, q, g1, g2, z, g4, e2]
    · simp [inB, ptD, q, g2, z]
end
end K52
end
section
set_option maxRecDepth 100000
set_option maxHeartbeats 1000000
namespace K52
open Pv Pm LawTop LK
open PySem (Str)
def yd (last : Int) : Int → List Int → List Pt → List Pt
  | _, [], l => l
  | k, w :: ws, l => yd last (k + 1) ws (l.flatMap (grow (decide (k < last)) w))
theorem dot_snoc : ∀ (ws st : Vc) (w v : Int), ws.length = st.length → dot (ws ++ [w]) (st ++ [v]) = dot ws st + w * v
  | [], [], w, v, _ => by simp
  | a :: ws, b :: st, w, v, h => by
    have ih := dot_snoc ws st w v (by simpa using h)
    simp only [List.cons_append, dot_cons, ih]
    omega
  | [], _ :: _, _, _, h => by simp at h
  | _ :: _, [], _, _, h => by simp at h
/-- what is known of the parts behind some wares -/
structure Mid (T : Int) (ws : Vc) (l : List Pt) : Prop where
  to : ∀ p ∈ l, p.1.length = ws.length ∧ (∀ v ∈ p.1, 0 ≤ v) ∧ dot ws p.1 + p.2 = T ∧ 0 ≤ p.2 ∧ p.2 ≤ T
  of : ∀ st : Vc, st.length = ws.length → (∀ v ∈ st, 0 ≤ v) → dot ws st ≤ T → (st, T - dot ws st) ∈ l
structure End (T : Int) (ws : Vc) (l : List Pt) : Prop where
  to : ∀ p ∈ l, p.1.length = ws.length ∧ (∀ v ∈ p.1, 0 ≤ v) ∧ dot ws p.1 = T
  of : ∀ st : Vc, st.length = ws.length → (∀ v ∈ st, 0 ≤ v) → dot ws st = T → ∃ z, (st, z) ∈ l
theorem snoc_of {ws : Vc} {st : Vc} (h : st.length = ws.length + 1) : ∃ a v, st = a ++ [v] ∧ a.length = ws.length := by
  have hne : st ≠ [] := by intro e; rw [e] at h; simp at h
  refine ⟨st.dropLast, st.getLast hne, (List.dropLast_concat_getLast hne).symm, by rw [List.length_dropLast, h]; rfl⟩
theorem mid_step {T w : Int} {ws : Vc} {l : List Pt} (hT : T ≤ 36) (hw : 1 ≤ w) (hws : ∀ v ∈ ws, 0 ≤ v) (m : Mid T ws l) : Mid T (ws ++ [w]) (l.flatMap (grow true w)) where
  to := by
    intro p hp
    obtain ⟨q, hq, hp⟩ := List.mem_flatMap.mp hp
    obtain ⟨h1, h2, h3, h4, h5⟩ := m.to q hq
    simp only [grow, if_true, List.mem_map, List.mem_range] at hp
    obtain ⟨k, hk, rfl⟩ := hp
    have d0 : 0 ≤ q.2 / w := Int.ediv_nonneg h4 (by omega)
    have hk2 : (k : Int) ≤ q.2 / w := by omega
    have e1 : (k : Int) * w ≤ q.2 := by
      have := Int.mul_le_mul_of_nonneg_right hk2 (show 0 ≤ w by omega)
      have q2 := Int.ediv_mul_le q.2 (show w ≠ 0 by omega)
      omega
    have e2 : 0 ≤ (k : Int) * w := Int.mul_nonneg (by omega) (by omega)
    refine ⟨by simp [h1], fun v hv => ?_, ?_, by simp only; omega, by simp only; omega⟩
    · rcases List.mem_append.mp hv with z | z
      · exact h2 v z
      · rw [List.mem_singleton.mp z]; omega
    · simp only
      rw [dot_snoc _ _ _ _ h1.symm, Int.mul_comm w]
      omega
  of := by
    intro st hl hn hd
    obtain ⟨a, v, rfl, ha⟩ := snoc_of (ws := ws) (by simpa using hl)
    rw [dot_snoc _ _ _ _ ha.symm] at hd ⊢
    have hv : 0 ≤ v := hn v (by simp)
    have hwv : 0 ≤ w * v := Int.mul_nonneg (by omega) hv
    have hm := m.of a ha (fun x hx => hn x (by simp [hx])) (by omega)
    refine List.mem_flatMap.mpr ⟨_, hm, ?_⟩
    simp only [grow, if_true, List.mem_map, List.mem_range]
    obtain ⟨k, hk⟩ : ∃ k : Nat, v = (k : Int) := ⟨v.toNat, by omega⟩
    subst hk
    refine ⟨k, ?_, ?_⟩
    · have q1 : (k : Int) ≤ (T - dot ws a) / w := by
        rw [Int.le_ediv_iff_mul_le (by omega), Int.mul_comm]
        omega
      omega
    · rw [Int.mul_comm (k : Int) w]
      congr 1
      omega
theorem end_step {T w : Int} {ws : Vc} {l : List Pt} (hw : 1 ≤ w) (m : Mid T ws l) : End T (ws ++ [w]) (l.flatMap (grow false w)) where
  to := by
    intro p hp
    obtain ⟨q, hq, hp⟩ := List.mem_flatMap.mp hp
    obtain ⟨h1, h2, h3, h4, h5⟩ := m.to q hq
    simp only [grow, Bool.false_eq_true, if_false] at hp
    split at hp
    · rename_i z
      cases List.mem_singleton.mp hp
      have e : w * (q.2 / w) = q.2 := by
        have := Int.mul_ediv_add_emod q.2 w
        omega
      refine ⟨by simp [h1], fun v hv => ?_, ?_⟩
      · rcases List.mem_append.mp hv with z | z
        · exact h2 v z
        · rw [List.mem_singleton.mp z]; exact Int.ediv_nonneg h4 (by omega)
      · simp only
        rw [dot_snoc _ _ _ _ h1.symm, e]
        exact h3
    · cases hp
  of := by
    intro st hl hn hd
    obtain ⟨a, v, rfl, ha⟩ := snoc_of (ws := ws) (by simpa using hl)
    rw [dot_snoc _ _ _ _ ha.symm] at hd
    have hv : 0 ≤ v := hn v (by simp)
    have hwv : 0 ≤ w * v := Int.mul_nonneg (by omega) hv
    have hm := m.of a ha (fun x hx => hn x (by simp [hx])) (by omega)
    refine ⟨0, List.mem_flatMap.mpr ⟨_, hm, ?_⟩⟩
    have e : T - dot ws a = w * v := by omega
    simp only [grow, Bool.false_eq_true, if_false, e]
    rw [if_pos (Int.mul_emod_right w v), Int.mul_ediv_cancel_left v (by omega)]
    simp
theorem flat_len {lt : Bool} {w : Int} (hw : 1 ≤ w) : ∀ {l : List Pt}, (∀ p ∈ l, 0 ≤ p.2 ∧ p.2 ≤ 36) → (l.flatMap (grow lt w)).length ≤ 37 * l.length
  | [], _ => by simp
  | p :: r, h => by
    have h1 := h p (by simp)
    have := grow_len (lt := lt) hw h1.1 h1.2
    have := flat_len (lt := lt) hw (l := r) fun q hq => h q (by simp [hq])
    simp only [List.flatMap_cons, List.length_append, List.length_cons]
    omega
theorem yd_ok {T : Int} (hT : 0 ≤ T ∧ T ≤ 36) : ∀ (ws ws0 : Vc) (l : List Pt), ws ≠ [] → (∀ v ∈ ws, 1 ≤ v) → (∀ v ∈ ws0, 0 ≤ v) → Mid T ws0 l → End T (ws0 ++ ws) (yd ((ws0.length : Int) + (ws.length : Int) - 1) (ws0.length : Int) ws l)
  | [], _, _, h, _, _, _ => absurd rfl h
  | [w], ws0, l, _, hw, h0, m => by
    have : decide (((ws0.length : Nat) : Int) < (ws0.length : Int) + (([w] : Vc).length : Int) - 1) = false := decide_eq_false (by simp)
    simp only [yd, this]
    exact end_step (hw w (by simp)) m
  | w :: w2 :: ws, ws0, l, _, hw, h0, m => by
    have : decide (((ws0.length : Nat) : Int) < (ws0.length : Int) + ((w :: w2 :: ws).length : Int) - 1) = true := decide_eq_true (by simp only [List.length_cons]; omega)
    rw [yd, this]
    have ih := yd_ok hT (w2 :: ws) (ws0 ++ [w]) (l.flatMap (grow true w)) (by simp) (fun v hv => hw v (by simp [hv])) (fun v hv => by
      rcases List.mem_append.mp hv with z | z
      · exact h0 v z
      · rw [List.mem_singleton.mp z]; have := hw w (by simp); omega) (mid_step hT.2 (hw w (by simp)) h0 m)
    have e1 : (((ws0 ++ [w]).length : Nat) : Int) = (ws0.length : Int) + 1 := by simp
    have e2 : (ws0.length : Int) + 1 + ((w2 :: ws).length : Int) - 1 = (ws0.length : Int) + ((w :: w2 :: ws).length : Int) - 1 := by simp only [List.length_cons]; omega
    rw [e1, e2] at ih
    simpa using ih
theorem mid_nil {T : Int} (hT : 0 ≤ T ∧ T ≤ 36) : Mid T [] [([], T)] where
  to := by intro p hp; cases List.mem_singleton.mp hp; simp; omega
  of := by
    intro st hl _ _
    have : st = [] := List.eq_nil_of_length_eq_zero (by simpa using hl)
    subst this
    simp
section
variable {n : Nat} {s : Sto} {rows : List Vc}
theorem yd_inner {c : Cl} {T tot fv : Option D} {last at_ w : Int} {gd : Gd} (hw : 1 ≤ w ∧ w ≤ 6) (hg : ∀ acc, gok (s ++ [.lst acc]) gd = true) : ∀ (l acc : List Pt) (x7 x8 x9 : Option D), (∀ p ∈ l, (0 ≤ p.2 ∧ p.2 ≤ 36) ∧ p.1.length ≤ 100) → acc.length + 37 * l.length < big →
    ∃ y7 y8 y9, loopS (fun d e s => thenS (evT c (.tp (.cons (.nm 7) (.cons (.nm 8) .nil))) d e s) e fun e1 s1 => evSs c inB e1 s1) gd (l.map ptD) [T, tot, fv, some (.int last), some (.int at_), some (.int w), some (.loc s.length), x7, x8, x9] (s ++ [.lst (acc.map ptD)]) =
      .nx [T, tot, fv, some (.int last), some (.int at_), some (.int w), some (.loc s.length), y7, y8, y9] (s ++ [.lst ((acc ++ l.flatMap (grow (decide (at_ < last)) w)).map ptD)])
  | [], acc, x7, x8, x9, _, _ => ⟨x7, x8, x9, by simp [loopS, hg]⟩
  | p :: r, acc, x7, x8, x9, hp, hl => by
    have hp1 := hp p (by simp)
    simp only [List.length_cons] at hl
    obtain ⟨y7, y8, y9, e⟩ := yd_turn (s := s) (c := c) (T := T) (tot := tot) (fv := fv) (x7 := x7) (x8 := x8) (x9 := x9) (last := last) (at_ := at_) (w := w) (p := p) (acc := acc) hw hp1.1 hp1.2 (by omega)
    have hgl := grow_len (lt := decide (at_ < last)) (p := p) hw.1 hp1.1.1 hp1.1.2
    obtain ⟨z7, z8, z9, e2⟩ := yd_inner (c := c) (T := T) (tot := tot) (fv := fv) (last := last) (at_ := at_) hw hg r (acc ++ grow (decide (at_ < last)) w p) y7 y8 y9 (fun q hq => hp q (by simp [hq])) (by rw [List.length_append]; omega)
    refine ⟨z7, z8, z9, ?_⟩
    simp only [List.map_cons, loopS, hg, if_true, e, List.flatMap_cons]
    rw [e2, List.append_assoc]
end
end K52
end
section
set_option maxRecDepth 100000
set_option maxHeartbeats 1000000
namespace K52
open Pv Pm LawTop LK
open PySem (Str)
theorem grow_in {lt : Bool} {w : Int} {p q : Pt} (hw : 1 ≤ w) (hp : 0 ≤ p.2 ∧ p.2 ≤ 36) (hq : q ∈ grow lt w p) : (0 ≤ q.2 ∧ q.2 ≤ 36) ∧ q.1.length = p.1.length + 1 := by
  unfold grow at hq
  split at hq
  · simp only [List.mem_map, List.mem_range] at hq
    obtain ⟨k, hk, rfl⟩ := hq
    have d0 : 0 ≤ p.2 / w := Int.ediv_nonneg hp.1 (by omega)
    have hk2 : (k : Int) ≤ p.2 / w := by omega
    have e1 : (k : Int) * w ≤ p.2 := by
      have := Int.mul_le_mul_of_nonneg_right hk2 (show 0 ≤ w by omega)
      have q2 := Int.ediv_mul_le p.2 (show w ≠ 0 by omega)
      omega
    have e2 : 0 ≤ (k : Int) * w := Int.mul_nonneg (by omega) (by omega)
    refine ⟨⟨by simp only; omega, by simp only; omega⟩, by simp⟩
  · split at hq
    · cases List.mem_singleton.mp hq
      exact ⟨⟨by simp, by simp⟩, by simp⟩
    · cases hq
def Rp (fv : D) (s : Sto) (l : List Pt) : Prop := fv = .lst (l.map ptD) ∨ ∃ j, j < s.length ∧ fv = .loc j ∧ s[j]? = some (.lst (l.map ptD))
theorem Rp.walk {fv : D} {s : Sto} {l : List Pt} (h : Rp fv s l) (c : D) : ∃ gd, walkD (s ++ [c]) fv = some (l.map ptD, gd) ∧ ∀ c', gok (s ++ [.lst c']) gd = true := by
  rcases h with h | ⟨j, hj, h, e⟩
  · subst h
    exact ⟨[], rfl, fun _ => rfl⟩
  · subst h
    have g : ∀ c : D, (s ++ [c]).getD j .non = .lst (l.map ptD) := fun c => by
      rw [List.getD_eq_getElem?_getD, List.getElem?_append_left hj, e]; rfl
    refine ⟨[(j, l.map ptD)], by simp only [walkD, g], fun c' => ?_⟩
    simp only [gok, g, same_refl, Bool.and_self]
def outB : CSs := (.cons (.asg (.nm 6) (.thaw (.lst .nil))) (.cons (.for_ (.tp (.cons (.nm 7) (.cons (.nm 8) .nil))) (.of (.var 2)) inB) (.cons (.asg (.nm 2) (.var 6)) .nil)))
section
variable {n : Nat} {rows : List Vc}
theorem yd_outer {c : Cl} {T tot : Option D} {last : Int} : ∀ (ws : Vc) (k : Nat) (l : List Pt) (fv : D) (s : Sto) (x4 x5 x6 x7 x8 x9 : Option D), (∀ w ∈ ws, 1 ≤ w ∧ w ≤ 6) → (∀ p ∈ l, (0 ≤ p.2 ∧ p.2 ≤ 36) ∧ p.1.length + ws.length ≤ 100) → l.length * 37 ^ ws.length ≤ 37 ^ 4 → Rp fv s l →
    ∃ fv' y4 y5 y6 y7 y8 y9 t, loopS (fun d e s => thenS (evT c (.tp (.cons (.nm 4) (.cons (.nm 5) .nil))) d e s) e fun e1 s1 => evSs c outB e1 s1) [] ((ws.zipIdx k).map fun p => .tup [.int (p.2 : Nat), .int p.1]) [T, tot, some fv, some (.int last), x4, x5, x6, x7, x8, x9] s =
      .nx [T, tot, some fv', some (.int last), y4, y5, y6, y7, y8, y9] (s ++ t) ∧ Rp fv' (s ++ t) (yd last (k : Int) ws l)
  | [], k, l, fv, s, x4, x5, x6, x7, x8, x9, _, _, _, h => ⟨fv, x4, x5, x6, x7, x8, x9, [], by simp [loopS], by simpa [yd] using h⟩
  | w :: ws, k, l, fv, s, x4, x5, x6, x7, x8, x9, hw, hp, hl, h => by
    have hw1 := hw w (by simp)
    obtain ⟨gd, e1, e2⟩ := h.walk (.lst [])
    have hll : l.length ≤ 37 ^ 3 := by
      have : 37 ^ (w :: ws).length ≥ 37 := by
        rw [List.length_cons, Nat.pow_succ]
        have := Nat.pow_pos (n := ws.length) (show 0 < 37 by decide)
        omega
      have := Nat.mul_le_mul_left l.length this
      have e4 : (37 : Nat) ^ 4 = 1874161 := by decide
      have e3 : (37 : Nat) ^ 3 = 50653 := by decide
      omega
    have e3 : (37 : Nat) ^ 3 = 50653 := by decide
    have hb : big = 16777216 := rfl
    obtain ⟨z7, z8, z9, e3'⟩ := yd_inner (s := s) (c := c) (T := T) (tot := tot) (fv := some fv) (last := last) (at_ := (k : Int)) hw1 e2 l [] x7 x8 x9 (fun p hp' => ⟨(hp p hp').1, by have := (hp p hp').2; omega⟩) (by simp; omega)
    have hin : ∀ p ∈ l.flatMap (grow (decide ((k : Int) < last)) w), (0 ≤ p.2 ∧ p.2 ≤ 36) ∧ p.1.length + ws.length ≤ 100 := fun p hp' => by
      obtain ⟨q, hq, hp'⟩ := List.mem_flatMap.mp hp'
      have hq1 := hp q hq
      have := grow_in hw1.1 hq1.1 hp'
      rw [List.length_cons] at hq1
      exact ⟨this.1, by omega⟩
    have hlen : (l.flatMap (grow (decide ((k : Int) < last)) w)).length * 37 ^ ws.length ≤ 37 ^ 4 := by
      have h1 := flat_len (lt := decide ((k : Int) < last)) hw1.1 (l := l) fun q hq => (hp q hq).1
      have h2 := Nat.mul_le_mul_right (37 ^ ws.length) h1
      rw [List.length_cons, Nat.pow_succ] at hl
      have h3 : 37 * l.length * 37 ^ ws.length = l.length * (37 ^ ws.length * 37) := by
        rw [Nat.mul_comm 37, Nat.mul_assoc, Nat.mul_comm 37]
      omega
    have hr : Rp (.loc s.length) (s ++ [.lst ((l.flatMap (grow (decide ((k : Int) < last)) w)).map ptD)]) (l.flatMap (grow (decide ((k : Int) < last)) w)) := .inr ⟨s.length, by simp, rfl, by simp⟩
    obtain ⟨fv', y4, y5, y6, y7, y8, y9, t, e4, e5⟩ := yd_outer (c := c) (T := T) (tot := tot) (last := last) ws (k + 1) _ _ _ (some (.int (k : Nat))) (some (.int w)) (some (.loc s.length)) z7 z8 z9 (fun v hv => hw v (by simp [hv])) hin hlen hr
    refine ⟨fv', y4, y5, y6, y7, y8, y9, [.lst ((l.flatMap (grow (decide ((k : Int) < last)) w)).map ptD)] ++ t, ?_, ?_⟩
    · rw [List.zipIdx_cons, List.map_cons]
      simp only [loopS, gok_nil, if_true]
      have body : thenS (evT c (.tp (.cons (.nm 4) (.cons (.nm 5) .nil))) (.tup [.int ((k : Nat) : Int), .int w]) [T, tot, some fv, some (.int last), x4, x5, x6, x7, x8, x9] s) [T, tot, some fv, some (.int last), x4, x5, x6, x7, x8, x9] (fun e1 s1 => evSs c outB e1 s1) =
          .nx [T, tot, some (.loc s.length), some (.int last), some (.int (k : Nat)), some (.int w), some (.loc s.length), z7, z8, z9] (s ++ [.lst ((l.flatMap (grow (decide ((k : Int) < last)) w)).map ptD)]) := by
        have tb : belows s.length [] = true := rfl
        simp only [List.map_nil, List.nil_append] at e3'
        simp [outB, tb, e1]
        rw [e3']
        simp
      rw [body]
      rw [← List.append_assoc]
      exact e4
    · rw [← List.append_assoc]
      simpa [yd] using e5
def YD (rows : List Vc) (t0 : Int) (tot : Vc) : List Vc := ((yd ((r0 rows).length - 1) 0 (r0 rows) [([], t0)]).filter fun p => decide (dots rows p.1 = tot)).map fun p => p.1
theorem yd_len : ∀ (ws : Vc) (k last : Int) (l : List Pt), (∀ w ∈ ws, 1 ≤ w) → (∀ p ∈ l, 0 ≤ p.2 ∧ p.2 ≤ 36) → (yd last k ws l).length ≤ l.length * 37 ^ ws.length := by
  intro ws
  induction ws with
  | nil => intro k last l _ _; simp [yd]
  | cons w ws ih =>
    intro k last l hw hp
    have hw1 := hw w (by simp)
    have := ih (k + 1) last (l.flatMap (grow (decide (k < last)) w)) (fun v hv => hw v (by simp [hv])) (fun p hp' => by
      obtain ⟨q, hq, hp'⟩ := List.mem_flatMap.mp hp'
      exact (grow_in hw1 (hp q hq) hp').1)
    have h1 := flat_len (lt := decide (k < last)) hw1 (l := l) hp
    have h2 := Nat.mul_le_mul_right (37 ^ ws.length) h1
    have h3 : 37 * l.length * 37 ^ ws.length = l.length * (37 ^ ws.length * 37) := by
      rw [Nat.mul_comm 37, Nat.mul_assoc, Nat.mul_comm 37]
    rw [List.length_cons, Nat.pow_succ, yd]
    omega
theorem w_yard {s : Sto} (h : okT rows) {t0 : Int} {tot tr : Vc} (hne : tot = t0 :: tr) (hT : 0 ≤ t0 ∧ t0 ≤ 36) : callN F (n + 2) 11 [tD rows, .tup (iD tot)] s = .ok (.tup (lD (YD rows t0 tot))) s := by
  obtain ⟨h1, h2, h3, tt, ht⟩ := okT_r0 h
  have i1 : ∀ s : Sto, idxD (rd s (tD rows)) (.int 0) = some (.tup (iD (r0 rows))) := fun s => by rw [ht]; simp [tD, lD_cons, r0]
  have i2 : ∀ s : Sto, idxD (rd s (.tup (iD tot))) (.int 0) = some (.int t0) := fun s => by rw [hne]; simp [iD_cons]
  have e4 : (37 : Nat) ^ 4 = 1874161 := by decide
  have hb : big = 16777216 := rfl
  obtain ⟨fv', y4, y5, y6, y7, y8, y9, t, e, hr⟩ := yd_outer (c := ⟨callN F (n + 1)⟩) (T := some (tD rows)) (tot := some (.tup (iD tot))) (last := (r0 rows).length - 1) (r0 rows) 0 [([], t0)] (.lst [ptD ([], t0)]) s none none none none none none h3 (by intro p hp; cases List.mem_singleton.mp hp; exact ⟨hT, by simp; omega⟩) (by
    have : (37 : Nat) ^ (r0 rows).length ≤ 37 ^ 4 := Nat.pow_le_pow_right (by decide) h2
    simpa using this) (.inl rfl)
  obtain ⟨L, hL⟩ : ∃ L, L = yd ((r0 rows).length - 1) 0 (r0 rows) [([], t0)] := ⟨_, rfl⟩
  have hlen : L.length ≤ big := by
    have := yd_len (r0 rows) 0 ((r0 rows).length - 1) [([], t0)] (fun w hw => (h3 w hw).1) (by intro p hp; cases List.mem_singleton.mp hp; exact hT)
    have q : (37 : Nat) ^ (r0 rows).length ≤ 37 ^ 4 := Nat.pow_le_pow_right (by decide) h2
    rw [← hL, List.length_singleton, Nat.one_mul] at this
    omega
  rw [show ((0 : Nat) : Int) = 0 from rfl, ← hL] at hr
  obtain ⟨gd, hw1, hw2⟩ : ∃ gd, walkD (s ++ t) fv' = some (L.map ptD, gd) ∧ gok (s ++ t) gd = true := by
    rcases hr with q | ⟨j, hj, q, q2⟩
    · exact ⟨[], by rw [q]; rfl, rfl⟩
    · have g : (s ++ t).getD j .non = .lst (L.map ptD) := by rw [List.getD_eq_getElem?_getD, q2]; rfl
      exact ⟨[(j, L.map ptD)], by rw [q]; simp only [walkD, g], by simp only [gok, g, same_refl, Bool.and_self]⟩
  have lastC : ∀ l : List Pt, loopC (fun d s => (evT ⟨callN F (n + 1)⟩ (.tp (.cons (.nm 7) (.cons (.nm 8) .nil))) d (wipeE [some (tD rows), some (.tup (iD tot)), some fv', some (.int ((r0 rows).length - 1)), y4, y5, y6, y7, y8, y9] [("part", 7), ("left", 8)]) s).bind fun e1 s => (evIf ⟨callN F (n + 1)⟩ (.cons (.cmp .eq (.call 6 (.cons (.var 0) (.cons (.var 7) .nil))) (.var 1)) .nil) e1 s).bind fun k s => if k = true then (evE ⟨callN F (n + 1)⟩ (.var 7) e1 s).bind fun y s => .ok (some y) s else .ok none s) gd (l.map ptD) (s ++ t) = .ok (lD ((l.filter fun p => decide (dots rows p.1 = tot)).map fun p => p.1)) (s ++ t) := by
    intro l
    induction l with
    | nil => simp [loopC, hw2]
    | cons p r ih =>
      have hbody : ∀ s' : Sto, ((evT ⟨callN F (n + 1)⟩ (.tp (.cons (.nm 7) (.cons (.nm 8) .nil))) (ptD p) (wipeE [some (tD rows), some (.tup (iD tot)), some fv', some (.int ((r0 rows).length - 1)), y4, y5, y6, y7, y8, y9] [("part", 7), ("left", 8)]) s').bind fun e1 s => (evIf ⟨callN F (n + 1)⟩ (.cons (.cmp .eq (.call 6 (.cons (.var 0) (.cons (.var 7) .nil))) (.var 1)) .nil) e1 s).bind fun k s => if k = true then (evE ⟨callN F (n + 1)⟩ (.var 7) e1 s).bind fun y s => .ok (some y) s else .ok none s) = (.ok (if dots rows p.1 = tot then some (.tup (iD p.1)) else none) s' : Out (Option D)) := fun s' => by
        by_cases q : dots rows p.1 = tot <;> simp [ptD, w_tot h, q]
      simp only [List.map_cons, loopC, hw2, if_true]
      rw [hbody, bind_ok, ih, bind_ok]
      by_cases q : dots rows p.1 = tot <;> simp [q, lD_cons]
  have ev : evSs ⟨callN F (n + 1)⟩ b_yard_of [some (tD rows), some (.tup (iD tot)), none, none, none, none, none, none, none, none] s = .ret (.tup (lD (YD rows t0 tot))) (s ++ t) := by
    unfold outB inB at e
    simp only [ptD, iD_nil] at e
    unfold b_yard_of
    rw [ev_ss_cons]
    simp only [ev_s_asg, ev_lst, ev_cons, ev_tup, ev_nil, ev_idx, ev_v1, ev_lit, bind_ok, i2, lift_some, ev_t_nm, List.set, toS_ok, seqS_nx]
    rw [ev_ss_cons]
    simp only [ev_s_asg, ev_bin, ev_bi, ev_cons, ev_nil, ev_idx, ev_v0, ev_lit, bind_ok, i1, lift_some, List.map_cons, List.map_nil, rd_tup', bi_len_t, iD_len, rd_int', bin_sub, ev_t_nm, List.set, toS_ok, seqS_nx]
    rw [ev_ss_cons, Pm.ev_s_for, ev_i_enum]
    simp only [ev_idx, ev_v0, ev_lit, bind_ok, i1, lift_some, walkQ_t, enumO_some, enum_iD, thenS_ok]
    rw [e, seqS_nx, ev_ss_cons, ev_s_ret, ev_bi, ev_cons, ev_comp', ev_i_of]
    simp only [ev_v2, bind_ok, hw1, liftO_some]
    rw [lastC]
    have hf : ((L.filter fun p => decide (dots rows p.1 = tot)).length) ≤ big := Nat.le_trans (List.length_filter_le _ _) hlen
    simp only [noExc_ok, bind_ok, lD_len, List.length_map]
    rw [if_pos hf]
    simp [YD, hL]
  rw [c_yard_of ev]
  simp
end
end K52
end
section
set_option maxRecDepth 100000
set_option maxHeartbeats 1000000
namespace K52
open Pv Pm LawTop LK
open PySem (Str)
/-! ### stocks and exchanges, plainly -/
theorem dot_four : ∀ (o m st : Vc), (∀ v ∈ o, v = 1) → (∀ v ∈ m, v ≤ 4) → (∀ v ∈ st, 0 ≤ v) → m.length = o.length → dot m st ≤ 4 * dot o st
  | [], [], st, _, _, _, _ => by simp
  | o :: os, m :: ms, [], _, _, _, _ => by simp
  | o :: os, m :: ms, a :: as, h, g, f, hl => by
    have ih := dot_four os ms as (fun v hv => h v (by simp [hv])) (fun v hv => g v (by simp [hv])) (fun v hv => f v (by simp [hv])) (by simpa using hl)
    have ho := h o (by simp)
    have hm := g m (by simp)
    have ha := f a (by simp)
    have := Int.mul_le_mul_of_nonneg_right hm ha
    simp only [dot_cons, ho, Int.one_mul]
    omega
  | [], _ :: _, _, _, _, _, h => by simp at h
  | _ :: _, [], _, _, _, _, h => by simp at h
/-- a list of numbers of wares, not below nothing -/
structure Ok (rows : List Vc) (st : Vc) : Prop where
  len : st.length = (r0 rows).length
  nn : ∀ v ∈ st, 0 ≤ v
section
variable {rows : List Vc}
theorem most_le : most rows ≤ 36 := by unfold most; split <;> omega
theorem fs_eq (h : okT rows) {st : Vc} (o : Ok rows st) : FS rows st = decide (dot (r0 rows) st ≤ most rows) := by
  obtain ⟨h1, h2, h3, t, ht⟩ := okT_r0 h
  unfold FS
  by_cases q : dot (r0 rows) st ≤ most rows
  · have : (st.all fun v => decide (0 ≤ v) && decide (v ≤ 36)) = true := by
      simp only [List.all_eq_true, Bool.and_eq_true, decide_eq_true_eq]
      intro v hv
      have q1 := le_dot (r0 rows) st (fun v hv => (h3 v hv).1) o.nn (by rw [o.len]; omega) v hv
      have q2 := most_le (rows := rows)
      exact ⟨o.nn v hv, by omega⟩
    rw [this]; rfl
  · simp [q]
theorem fx_eq (h : okT rows) {a : Vc} (hl : a.length = (r0 rows).length) : FX rows a = (decide (dot (r0 rows) (pl a) ≤ most rows) && decide (dots rows (pl a) = dots rows (ng a))) := by
  obtain ⟨h1, h2, h3, t, ht⟩ := okT_r0 h
  have o1 : Ok rows (pl a) := ⟨by rw [len_pl]; exact hl, pl_nn a⟩
  have o2 : Ok rows (ng a) := ⟨by rw [len_ng]; exact hl, ng_nn a⟩
  unfold FX
  rw [fs_eq h o1, fs_eq h o2]
  by_cases q : dots rows (pl a) = dots rows (ng a)
  · have q0 : dot (r0 rows) (pl a) = dot (r0 rows) (ng a) := by
      rw [ht] at q
      simp only [dots, List.map_cons, List.cons.injEq] at q
      exact q.1
    rw [← q0]
    by_cases p : dot (r0 rows) (pl a) ≤ most rows
    · have : (a.all fun v => decide (-36 ≤ v) && decide (v ≤ 36)) = true := by
        simp only [List.all_eq_true, Bool.and_eq_true, decide_eq_true_eq]
        intro v hv
        have q1 := le_dot (r0 rows) (pl a) (fun v hv => (h3 v hv).1) o1.nn (by rw [o1.len]; omega) (pz v) (by simp only [pl, List.mem_map]; exact ⟨v, hv, rfl⟩)
        have q2 := le_dot (r0 rows) (ng a) (fun v hv => (h3 v hv).1) o2.nn (by rw [o2.len]; omega) (pz (-v)) (by simp only [ng, List.mem_map]; exact ⟨v, hv, rfl⟩)
        have q3 := most_le (rows := rows)
        unfold pz at q1 q2
        split at q1 <;> split at q2 <;> constructor <;> omega
      simp [this, p, q]
    · simp [p]
  · simp [q]
theorem dots_diff {a : Vc} : dots rows (pl a) = dots rows (ng a) ↔ ∀ r ∈ rows, dot r a = 0 := by
  unfold dots
  rw [List.map_inj_left]
  constructor
  · intro h r hr
    have := h r hr
    have := dot_pn r a
    omega
  · intro h r hr
    have := h r hr
    have := dot_pn r a
    omega
/-- a stock of the yard of these totals -/
structure St (rows : List Vc) (tot : Vc) (st : Vc) : Prop where
  ok : Ok rows st
  eq : dots rows st = tot
theorem st_dot {tot x y : Vc} (hx : St rows tot x) (hy : St rows tot y) : ∀ r ∈ rows, dot r x = dot r y := by
  have := hx.eq.trans hy.eq.symm
  unfold dots at this
  exact List.map_inj_left.mp this
theorem sub_len {a b : Vc} (h : a.length = b.length) : (sub a b).length = a.length := by simp [sub, len_add, len_tms, h]
theorem st_zero {tot x y : Vc} (hx : St rows tot x) (hy : St rows tot y) : ∀ r ∈ rows, dot r (sub y x) = 0 := by
  intro r hr
  have := st_dot hx hy r hr
  have hl : y.length = x.length := by rw [hx.ok.len, hy.ok.len]
  rw [sub, dot_add _ _ _ (by rw [len_tms]; exact hl), dot_tms]
  omega
theorem fx_sub (h : okT rows) {tot x y : Vc} (hx : St rows tot x) (hy : St rows tot y) (hm : dot (r0 rows) y ≤ most rows) : FX rows (sub y x) = true := by
  obtain ⟨h1, h2, h3, t, ht⟩ := okT_r0 h
  have hl : y.length = x.length := by rw [hx.ok.len, hy.ok.len]
  rw [fx_eq h (by rw [sub_len hl]; exact hy.ok.len), decide_eq_true (dots_diff.mpr (st_zero hx hy)), Bool.and_true, decide_eq_true_eq]
  have := dot_le (r0 rows) _ _ (fun v hv => by have := h3 v hv; omega) (pl_sub_le y x hl hy.ok.nn hx.ok.nn)
  omega
theorem fx_tms (h : okT rows) {tot x y : Vc} (hx : St rows tot x) (hy : St rows tot y) {k : Int} (hk : 0 < k) : FX rows (tms k (sub y x)) = decide (k * dot (r0 rows) (ng (sub y x)) ≤ most rows) := by
  obtain ⟨h1, h2, h3, t, ht⟩ := okT_r0 h
  have hl : y.length = x.length := by rw [hx.ok.len, hy.ok.len]
  have e : dots rows (pl (tms k (sub y x))) = dots rows (ng (tms k (sub y x))) := dots_diff.mpr fun r hr => by rw [dot_tms, st_zero hx hy r hr, Int.mul_zero]
  have e0 : dot (r0 rows) (sub y x) = 0 := st_zero hx hy _ (by rw [ht]; simp [r0])
  have e1 := dot_pn (r0 rows) (sub y x)
  have e2 : dot (r0 rows) (pl (sub y x)) = dot (r0 rows) (ng (sub y x)) := by omega
  rw [fx_eq h (by rw [len_tms, sub_len hl]; exact hy.ok.len), decide_eq_true e, Bool.and_true, pl_tms k hk, dot_tms, e2]
theorem has_sub : ∀ (x y : Vc), x.length = y.length → (∀ v ∈ y, 0 ≤ v) → has x (sub y x) = true
  | [], [], _, _ => rfl
  | x :: xs, y :: ys, hl, h => by
    have ih := has_sub xs ys (by simpa using hl) fun v hv => h v (by simp [hv])
    have hy := h y (by simp)
    simp only [has, sub, tms_cons, add_cons, List.zip_cons_cons, List.all_cons, Bool.and_eq_true] at ih ⊢
    refine ⟨?_, ih⟩
    simp
    omega
  | [], _ :: _, h, _ => by simp at h
  | _ :: _, [], h, _ => by simp at h
theorem has_rich : ∀ a : Vc, has ((ng a).map fun x => x + 1) a = true
  | [] => rfl
  | a :: r => by
    have ih := has_rich r
    simp only [has, ng_cons, List.map_cons, List.zip_cons_cons, List.all_cons, Bool.and_eq_true] at ih ⊢
    refine ⟨?_, ih⟩
    have : 0 ≤ pz (-a) + 1 + a := by unfold pz; split <;> omega
    simp [this]
/-- one place changed -/
theorem dot_set : ∀ (r a : Vc) (i : Nat) (v : Int), r.length = a.length → ∀ hi : i < a.length, ∀ hi2 : i < r.length, dot r (a.set i v) = dot r a + r[i] * (v - a[i])
  | [], [], i, v, _, hi, _ => absurd hi (by simp)
  | r :: rs, a :: as, 0, v, _, _, _ => by simp [Int.mul_sub]; omega
  | r :: rs, a :: as, i + 1, v, hl, hi, hi2 => by
    have ih := dot_set rs as i v (by simpa using hl) (by simpa using hi) (by simpa using hi2)
    simp only [List.set_cons_succ, dot_cons, ih, List.getElem_cons_succ]
    omega
  | [], _ :: _, _, _, h, _, _ => by simp at h
  | _ :: _, [], _, _, h, _, _ => by simp at h
theorem has_poor : ∀ (a : Vc) (i : Nat) (hi : i < a.length), a[i] < 0 → has ((ng a).set i ((ng a)[i]'(by rw [len_ng]; exact hi) - 1)) a = false
  | [], i, hi, _ => absurd hi (by simp)
  | a :: as, 0, hi, h => by
    have h' : a < 0 := h
    have : ¬ 0 ≤ pz (-a) - 1 + a := by unfold pz; split <;> omega
    simp [has, this]
    omega
  | a :: as, i + 1, hi, h => by
    have ih := has_poor as i (by simpa using hi) (by simpa using h)
    simp only [has, ng_cons, List.set_cons_succ, List.getElem_cons_succ, List.zip_cons_cons, List.all_cons] at ih ⊢
    rw [ih, Bool.and_false]
theorem ng_at {a : Vc} {i : Nat} (hi : i < a.length) : (ng a)[i]'(by rw [len_ng]; exact hi) = pz (-a[i]) := by simp [ng]
theorem set_mem {a : Vc} {i : Nat} {v w : Int} (h : w ∈ a.set i v) : w ∈ a ∨ w = v := List.mem_or_eq_of_mem_set h
end
end K52
end
section
set_option maxRecDepth 100000
set_option maxHeartbeats 1000000
namespace K52
open Pv Pm LawTop LK
open PySem (Str)
section
variable {n : Nat} {s : Sto} {rows : List Vc}
/-- the totals of an own stock, and its yard -/
theorem own (h : okT rows) {st : Vc} (o : Ok rows st) (hm : dot (r0 rows) st ≤ most rows) :
    ∃ t0 tr, dots rows st = t0 :: tr ∧ t0 = dot (r0 rows) st ∧ (0 ≤ t0 ∧ t0 ≤ 36) ∧ (∀ v ∈ dots rows st, 0 ≤ v ∧ v ≤ 36) := by
  obtain ⟨h1, h2, h3, t, ht⟩ := okT_r0 h
  have q := most_le (rows := rows)
  have n0 := dot_nn (r0 rows) st (fun v hv => by have := h3 v hv; omega) o.nn
  refine ⟨dot (r0 rows) st, t.map fun r => dot r st, by conv => lhs; rw [ht]
                                                        rfl, rfl, ⟨n0, by omega⟩, ?_⟩
  rcases h with ⟨r, rfl, g1, g2, g3⟩ | ⟨p, m, rfl, g1, g2, g3, g4, g5⟩
  · intro v hv
    simp only [dots, List.map_cons, List.map_nil, List.mem_singleton] at hv
    subst hv
    exact ⟨n0, by show dot (r0 [r]) st ≤ 36; omega⟩
  · intro v hv
    simp only [dots, List.map_cons, List.map_nil, List.mem_cons, List.not_mem_nil, or_false] at hv
    have m8 : most [p, m] = 8 := rfl
    have r00 : r0 [p, m] = p := rfl
    rw [r00] at n0 hm
    have f := dot_four p m st g3 (fun v hv => (g5 v hv).2) o.nn g4
    have f0 := dot_nn m st (fun v hv => (g5 v hv).1) o.nn
    rcases hv with e | e <;> subst e <;> constructor <;> omega
theorem yd_mem (h : okT rows) {t0 : Int} {tot tr : Vc} (hne : tot = t0 :: tr) (hT : 0 ≤ t0 ∧ t0 ≤ 36) {st : Vc} : st ∈ YD rows t0 tot ↔ St rows tot st := by
  obtain ⟨h1, h2, h3, t, ht⟩ := okT_r0 h
  have en := yd_ok hT (r0 rows) [] [([], t0)] (by intro e; rw [e] at h1; simp at h1) (fun v hv => (h3 v hv).1) (by simp) (mid_nil hT)
  simp only [List.length_nil, List.nil_append] at en
  have e1 : ((0 : Nat) : Int) + ((r0 rows).length : Int) - 1 = ((r0 rows).length : Int) - 1 := by omega
  rw [e1, show ((0 : Nat) : Int) = 0 from rfl] at en
  simp only [YD, List.mem_map, List.mem_filter, decide_eq_true_eq]
  constructor
  · rintro ⟨p, ⟨hp, hd⟩, rfl⟩
    have := en.to p hp
    exact ⟨⟨this.1, this.2.1⟩, hd⟩
  · rintro ⟨⟨hl, hn⟩, hd⟩
    have d0 : dot (r0 rows) st = t0 := by
      rw [ht, hne] at hd
      simp only [dots, List.map_cons, List.cons.injEq] at hd
      exact hd.1
    obtain ⟨z, hz⟩ := en.of st hl hn d0
    exact ⟨(st, z), ⟨hz, hd⟩, rfl⟩
theorem w_needtot (h : okT rows) {st : Vc} (o : Ok rows st) (hm : dot (r0 rows) st ≤ most rows) : callN F (n + 6) 12 [tD rows, .tup (iD (dots rows st))] s = .ok .non s := by
  obtain ⟨t0, tr, e1, e2, e3, e4⟩ := own h o hm
  have hb : rows.length ≤ big := big_of (by have := okT_len h; omega)
  have hne : YD rows t0 (dots rows st) ≠ [] := List.ne_nil_of_mem ((yd_mem h e1 e3).mpr ⟨o, rfl⟩)
  have hE : (YD rows t0 (dots rows st)).isEmpty = false := by
    cases q : YD rows t0 (dots rows st)
    · exact absurd q hne
    · rfl
  have hl : (dots rows st).length = rows.length := by simp [dots]
  have i1 : (iD (dots rows st))[0]? = some (.int t0) := by rw [e1]; simp [iD_cons]
  have hyard : ∀ (n : Nat) (s : Sto), callN F (n + 2) 11 [tD rows, .tup (iD (dots rows st))] s = .ok (.tup (lD (YD rows t0 (dots rows st)))) s := fun n s => w_yard h e1 e3
  have hc : ((dots rows st).all fun v => decide (0 ≤ v) && decide (v ≤ 36)) = true := all_in e4
  have hm2 : t0 ≤ most rows := by omega
  have hm3 : ¬ most rows < t0 := by omega
  have hlen : ∀ (s : Sto), biD .len [rd s (tD rows)] = some (.int (rows.length : Int)) := fun s => by simp [tD]
  have e : evSs ⟨callN F (n + 5)⟩ b_need_totals [some (tD rows), some (.tup (iD (dots rows st)))] s = .nx [some (tD rows), some (.tup (iD (dots rows st)))] s := by
    have hbl : (dots rows st).length ≤ big := by rw [hl]; exact hb
    simp [b_need_totals, w_need h, hlen, w_wholes hbl, hl, hc, i1, w_most, hm2, hyard, hE, hm3]
  rw [cn_need_totals e]; simp
theorem w_yd (h : okT rows) {st : Vc} (o : Ok rows st) (hm : dot (r0 rows) st ≤ most rows) : ∃ xs : List Vc, xs ≠ [] ∧ xs.length ≤ big ∧ (∀ x ∈ xs, St rows (dots rows st) x) ∧ ∀ (n : Nat) (s : Sto), callN F (n + 7) 13 [tD rows, .tup (iD (dots rows st))] s = .ok (.tup (lD xs)) s := by
  obtain ⟨t0, tr, e1, e2, e3, e4⟩ := own h o hm
  obtain ⟨h1, h2, h3, t, ht⟩ := okT_r0 h
  refine ⟨YD rows t0 (dots rows st), List.ne_nil_of_mem ((yd_mem h e1 e3).mpr ⟨o, rfl⟩), ?_, fun x hx => (yd_mem h e1 e3).mp hx, fun n s => ?_⟩
  · have h5 := yd_len (r0 rows) 0 ((r0 rows).length - 1) [([], t0)] (fun w hw => (h3 w hw).1) (by intro p hp; cases List.mem_singleton.mp hp; exact e3)
    have q : (37 : Nat) ^ (r0 rows).length ≤ 37 ^ 4 := Nat.pow_le_pow_right (by decide) h2
    have h6 : (YD rows t0 (dots rows st)).length ≤ (yd ((r0 rows).length - 1) 0 (r0 rows) [([], t0)]).length := by
      unfold YD
      rw [List.length_map]
      exact List.length_filter_le _ _
    have e4 : (37 : Nat) ^ 4 = 1874161 := by decide
    have hb : big = 16777216 := rfl
    rw [List.length_singleton, Nat.one_mul] at h5
    omega
  · have hyard : ∀ (n : Nat) (s : Sto), callN F (n + 2) 11 [tD rows, .tup (iD (dots rows st))] s = .ok (.tup (lD (YD rows t0 (dots rows st)))) s := fun n s => w_yard h e1 e3
    have e : evSs ⟨callN F (n + 6)⟩ b_yard [some (tD rows), some (.tup (iD (dots rows st)))] s = .ret (.tup (lD (YD rows t0 (dots rows st)))) s := by simp [b_yard, w_needtot h o hm, hyard]
    rw [c_yard e]; simp
end
end K52
end
section
set_option maxRecDepth 100000
set_option maxHeartbeats 1000000
namespace Pm
open Pv
open PySem (Str)
/-- a comprehension of so many draws; use it with `simp [-ev_comp', ..]` -/
theorem comp_roll {c : Cl} {e : En} {s0 s : Sto} {m : Nat} {x : Str} {i : Nat} {a b : CE} {Inv : Sto → Prop} {R : D → Prop}
    (ha : evE c a e s0 = .ok (.int (m : Int)) s) (hm : m ≤ 5000000) (hi : Inv s)
    (hb : ∀ (d : D) s, Inv s → ∃ y s', evE c b ((e.set i none).set i (some d)) s = .ok y s' ∧ R y ∧ Inv s') :
    ∃ ys s', evE c (.comp [(x, i)] (.nm i) (.range (.cons a .nil)) .nil b) e s0 = .ok (.lst ys) s' ∧ ys.length = m ∧ (∀ y ∈ ys, R y) ∧ Inv s' := by
  obtain ⟨ys, s', h1, h2, h3, h4⟩ := loopA_ex (α := Nat) (body := fun k s => (evE c b ((e.set i none).set i (some (nI k))) s).bind fun y s => .ok (some y) s) (xs := List.range m) (R := R) hi (fun k _ s hs => by
    obtain ⟨y, s', g1, g2, g3⟩ := hb (nI k) s hs
    exact ⟨y, s', by simp only [g1, bind_ok], g2, g3⟩)
  have hb : big = 16777216 := rfl
  have hl : ys.length ≤ big := by rw [h2, List.length_range]; omega
  refine ⟨ys, s', ?_, by rw [h2, List.length_range], h3, h4⟩
  simp only [ev_comp', ev_i_range, ev_cons, ev_nil, ha, bind_ok, rng1 hm, Option.map_some, liftO_some, loopC_map0, wipeE_cons, wipeE_nil, ev_t_nm, ev_if_nil, if_true]
  rw [h1]
  simp only [noExc_ok, bind_ok, hl, if_true]
theorem iD_of {ys : List D} {P : Int → Prop} (h : ∀ y ∈ ys, ∃ v, y = .int v ∧ P v) : ∃ vs : List Int, ys = iD vs ∧ ∀ v ∈ vs, P v := by
  induction ys with
  | nil => exact ⟨[], rfl, by simp⟩
  | cons y r ih =>
    obtain ⟨vs, e, hv⟩ := ih fun z hz => h z (by simp [hz])
    obtain ⟨v, e2, h2⟩ := h y (by simp)
    refine ⟨v :: vs, by rw [e, e2]; rfl, fun w hw => ?_⟩
    rcases List.mem_cons.mp hw with z | z
    · rw [z]; exact h2
    · exact hv w z
end Pm
namespace Pm
open Pv
open PySem (Str)
section
variable {c : Cl} {e : En} {s : Sto}
@[simp] theorem ev_slc_0h {a h : CE} : evE c (.slc a .nil (.cons h .nil)) e s = (evE c a e s).bind fun x s => (evE c h e s).bind fun d s => (match optI [d] with
    | some h => lift (slcD (rd s x) none h) s
    | none => .bad) := by
  rw [evE]
  congr
  funext x s
  simp only [ev_nil, bind_ok, ev_cons, optI]
  cases evE c h e s <;> rfl
@[simp] theorem ev_slc_l0 {a l : CE} : evE c (.slc a (.cons l .nil) .nil) e s = (evE c a e s).bind fun x s => (evE c l e s).bind fun d s => (match optI [d] with
    | some l => lift (slcD (rd s x) l none) s
    | none => .bad) := by
  rw [evE]
  congr
  funext x s
  simp only [ev_nil, bind_ok, ev_cons]
  cases evE c l e s with
  | ok d s => simp only [bind_ok]; cases optI [d] <;> rfl
  | bad => rfl
  | exc k v s => rfl
@[simp] theorem optI_int {i : Int} : optI [.int i] = some (some i) := id rfl
@[simp] theorem slcD_t {xs : List D} {l h : Option Int} : slcD (.tup xs) l h = some (.tup (cutD xs l h)) := id rfl
@[simp] theorem slcD_l {xs : List D} {l h : Option Int} : slcD (.lst xs) l h = some (.lst (cutD xs l h)) := id rfl
theorem cut_to {xs : List D} {k : Nat} (h : k ≤ xs.length) : cutD xs none (some (k : Int)) = xs.take k := by
  have : ¬ (k : Int) < 0 := by omega
  simp only [cutD, cutAt, List.drop_zero, Nat.sub_zero, this, if_false, Int.toNat_natCast, Nat.min_eq_left h]
theorem cut_from {xs : List D} {k : Nat} (h : k ≤ xs.length) : cutD xs (some (k : Int)) none = xs.drop k := by
  have : ¬ (k : Int) < 0 := by omega
  simp only [cutD, cutAt, this, if_false, Int.toNat_natCast, Nat.min_eq_left h]
  rw [List.take_of_length_le (by simp)]
@[simp] theorem ev_t_tpl {ts : Tgs} {xs : List D} : evT c (.tp ts) (.lst xs) e s = evTs c ts xs e s := by rw [evT]; rfl
end
end Pm
namespace Pm
open Pv
section
variable {c : Cl} {s : Sto}
@[simp] theorem ev_v13 {d : D} {a0 a1 a2 a3 a4 a5 a6 a7 a8 a9 a10 a11 a12 : Option D} {r : En} : evE c (.var 13) (a0 :: a1 :: a2 :: a3 :: a4 :: a5 :: a6 :: a7 :: a8 :: a9 :: a10 :: a11 :: a12 :: some d :: r) s = .ok d s := by rw [evE]; rfl
@[simp] theorem ev_v14 {d : D} {a0 a1 a2 a3 a4 a5 a6 a7 a8 a9 a10 a11 a12 a13 : Option D} {r : En} : evE c (.var 14) (a0 :: a1 :: a2 :: a3 :: a4 :: a5 :: a6 :: a7 :: a8 :: a9 :: a10 :: a11 :: a12 :: a13 :: some d :: r) s = .ok d s := by rw [evE]; rfl
@[simp] theorem ev_v15 {d : D} {a0 a1 a2 a3 a4 a5 a6 a7 a8 a9 a10 a11 a12 a13 a14 : Option D} {r : En} : evE c (.var 15) (a0 :: a1 :: a2 :: a3 :: a4 :: a5 :: a6 :: a7 :: a8 :: a9 :: a10 :: a11 :: a12 :: a13 :: a14 :: some d :: r) s = .ok d s := by rw [evE]; rfl
@[simp] theorem ev_v16 {d : D} {a0 a1 a2 a3 a4 a5 a6 a7 a8 a9 a10 a11 a12 a13 a14 a15 : Option D} {r : En} : evE c (.var 16) (a0 :: a1 :: a2 :: a3 :: a4 :: a5 :: a6 :: a7 :: a8 :: a9 :: a10 :: a11 :: a12 :: a13 :: a14 :: a15 :: some d :: r) s = .ok d s := by rw [evE]; rfl
@[simp] theorem ev_v17 {d : D} {a0 a1 a2 a3 a4 a5 a6 a7 a8 a9 a10 a11 a12 a13 a14 a15 a16 : Option D} {r : En} : evE c (.var 17) (a0 :: a1 :: a2 :: a3 :: a4 :: a5 :: a6 :: a7 :: a8 :: a9 :: a10 :: a11 :: a12 :: a13 :: a14 :: a15 :: a16 :: some d :: r) s = .ok d s := by rw [evE]; rfl
@[simp] theorem ev_v18 {d : D} {a0 a1 a2 a3 a4 a5 a6 a7 a8 a9 a10 a11 a12 a13 a14 a15 a16 a17 : Option D} {r : En} : evE c (.var 18) (a0 :: a1 :: a2 :: a3 :: a4 :: a5 :: a6 :: a7 :: a8 :: a9 :: a10 :: a11 :: a12 :: a13 :: a14 :: a15 :: a16 :: a17 :: some d :: r) s = .ok d s := by rw [evE]; rfl
@[simp] theorem ev_v19 {d : D} {a0 a1 a2 a3 a4 a5 a6 a7 a8 a9 a10 a11 a12 a13 a14 a15 a16 a17 a18 : Option D} {r : En} : evE c (.var 19) (a0 :: a1 :: a2 :: a3 :: a4 :: a5 :: a6 :: a7 :: a8 :: a9 :: a10 :: a11 :: a12 :: a13 :: a14 :: a15 :: a16 :: a17 :: a18 :: some d :: r) s = .ok d s := by rw [evE]; rfl
@[simp] theorem ev_v20 {d : D} {a0 a1 a2 a3 a4 a5 a6 a7 a8 a9 a10 a11 a12 a13 a14 a15 a16 a17 a18 a19 : Option D} {r : En} : evE c (.var 20) (a0 :: a1 :: a2 :: a3 :: a4 :: a5 :: a6 :: a7 :: a8 :: a9 :: a10 :: a11 :: a12 :: a13 :: a14 :: a15 :: a16 :: a17 :: a18 :: a19 :: some d :: r) s = .ok d s := by rw [evE]; rfl
@[simp] theorem ev_v21 {d : D} {a0 a1 a2 a3 a4 a5 a6 a7 a8 a9 a10 a11 a12 a13 a14 a15 a16 a17 a18 a19 a20 : Option D} {r : En} : evE c (.var 21) (a0 :: a1 :: a2 :: a3 :: a4 :: a5 :: a6 :: a7 :: a8 :: a9 :: a10 :: a11 :: a12 :: a13 :: a14 :: a15 :: a16 :: a17 :: a18 :: a19 :: a20 :: some d :: r) s = .ok d s := by rw [evE]; rfl
@[simp] theorem ev_v22 {d : D} {a0 a1 a2 a3 a4 a5 a6 a7 a8 a9 a10 a11 a12 a13 a14 a15 a16 a17 a18 a19 a20 a21 : Option D} {r : En} : evE c (.var 22) (a0 :: a1 :: a2 :: a3 :: a4 :: a5 :: a6 :: a7 :: a8 :: a9 :: a10 :: a11 :: a12 :: a13 :: a14 :: a15 :: a16 :: a17 :: a18 :: a19 :: a20 :: a21 :: some d :: r) s = .ok d s := by rw [evE]; rfl
@[simp] theorem ev_v23 {d : D} {a0 a1 a2 a3 a4 a5 a6 a7 a8 a9 a10 a11 a12 a13 a14 a15 a16 a17 a18 a19 a20 a21 a22 : Option D} {r : En} : evE c (.var 23) (a0 :: a1 :: a2 :: a3 :: a4 :: a5 :: a6 :: a7 :: a8 :: a9 :: a10 :: a11 :: a12 :: a13 :: a14 :: a15 :: a16 :: a17 :: a18 :: a19 :: a20 :: a21 :: a22 :: some d :: r) s = .ok d s := by rw [evE]; rfl
@[simp] theorem ev_v24 {d : D} {a0 a1 a2 a3 a4 a5 a6 a7 a8 a9 a10 a11 a12 a13 a14 a15 a16 a17 a18 a19 a20 a21 a22 a23 : Option D} {r : En} : evE c (.var 24) (a0 :: a1 :: a2 :: a3 :: a4 :: a5 :: a6 :: a7 :: a8 :: a9 :: a10 :: a11 :: a12 :: a13 :: a14 :: a15 :: a16 :: a17 :: a18 :: a19 :: a20 :: a21 :: a22 :: a23 :: some d :: r) s = .ok d s := by rw [evE]; rfl
@[simp] theorem ev_v25 {d : D} {a0 a1 a2 a3 a4 a5 a6 a7 a8 a9 a10 a11 a12 a13 a14 a15 a16 a17 a18 a19 a20 a21 a22 a23 a24 : Option D} {r : En} : evE c (.var 25) (a0 :: a1 :: a2 :: a3 :: a4 :: a5 :: a6 :: a7 :: a8 :: a9 :: a10 :: a11 :: a12 :: a13 :: a14 :: a15 :: a16 :: a17 :: a18 :: a19 :: a20 :: a21 :: a22 :: a23 :: a24 :: some d :: r) s = .ok d s := by rw [evE]; rfl
@[simp] theorem ev_v26 {d : D} {a0 a1 a2 a3 a4 a5 a6 a7 a8 a9 a10 a11 a12 a13 a14 a15 a16 a17 a18 a19 a20 a21 a22 a23 a24 a25 : Option D} {r : En} : evE c (.var 26) (a0 :: a1 :: a2 :: a3 :: a4 :: a5 :: a6 :: a7 :: a8 :: a9 :: a10 :: a11 :: a12 :: a13 :: a14 :: a15 :: a16 :: a17 :: a18 :: a19 :: a20 :: a21 :: a22 :: a23 :: a24 :: a25 :: some d :: r) s = .ok d s := by rw [evE]; rfl
@[simp] theorem ev_v27 {d : D} {a0 a1 a2 a3 a4 a5 a6 a7 a8 a9 a10 a11 a12 a13 a14 a15 a16 a17 a18 a19 a20 a21 a22 a23 a24 a25 a26 : Option D} {r : En} : evE c (.var 27) (a0 :: a1 :: a2 :: a3 :: a4 :: a5 :: a6 :: a7 :: a8 :: a9 :: a10 :: a11 :: a12 :: a13 :: a14 :: a15 :: a16 :: a17 :: a18 :: a19 :: a20 :: a21 :: a22 :: a23 :: a24 :: a25 :: a26 :: some d :: r) s = .ok d s := by rw [evE]; rfl
@[simp] theorem ev_v28 {d : D} {a0 a1 a2 a3 a4 a5 a6 a7 a8 a9 a10 a11 a12 a13 a14 a15 a16 a17 a18 a19 a20 a21 a22 a23 a24 a25 a26 a27 : Option D} {r : En} : evE c (.var 28) (a0 :: a1 :: a2 :: a3 :: a4 :: a5 :: a6 :: a7 :: a8 :: a9 :: a10 :: a11 :: a12 :: a13 :: a14 :: a15 :: a16 :: a17 :: a18 :: a19 :: a20 :: a21 :: a22 :: a23 :: a24 :: a25 :: a26 :: a27 :: some d :: r) s = .ok d s := by rw [evE]; rfl
@[simp] theorem ev_v29 {d : D} {a0 a1 a2 a3 a4 a5 a6 a7 a8 a9 a10 a11 a12 a13 a14 a15 a16 a17 a18 a19 a20 a21 a22 a23 a24 a25 a26 a27 a28 : Option D} {r : En} : evE c (.var 29) (a0 :: a1 :: a2 :: a3 :: a4 :: a5 :: a6 :: a7 :: a8 :: a9 :: a10 :: a11 :: a12 :: a13 :: a14 :: a15 :: a16 :: a17 :: a18 :: a19 :: a20 :: a21 :: a22 :: a23 :: a24 :: a25 :: a26 :: a27 :: a28 :: some d :: r) s = .ok d s := by rw [evE]; rfl
@[simp] theorem ev_v30 {d : D} {a0 a1 a2 a3 a4 a5 a6 a7 a8 a9 a10 a11 a12 a13 a14 a15 a16 a17 a18 a19 a20 a21 a22 a23 a24 a25 a26 a27 a28 a29 : Option D} {r : En} : evE c (.var 30) (a0 :: a1 :: a2 :: a3 :: a4 :: a5 :: a6 :: a7 :: a8 :: a9 :: a10 :: a11 :: a12 :: a13 :: a14 :: a15 :: a16 :: a17 :: a18 :: a19 :: a20 :: a21 :: a22 :: a23 :: a24 :: a25 :: a26 :: a27 :: a28 :: a29 :: some d :: r) s = .ok d s := by rw [evE]; rfl
@[simp] theorem ev_v31 {d : D} {a0 a1 a2 a3 a4 a5 a6 a7 a8 a9 a10 a11 a12 a13 a14 a15 a16 a17 a18 a19 a20 a21 a22 a23 a24 a25 a26 a27 a28 a29 a30 : Option D} {r : En} : evE c (.var 31) (a0 :: a1 :: a2 :: a3 :: a4 :: a5 :: a6 :: a7 :: a8 :: a9 :: a10 :: a11 :: a12 :: a13 :: a14 :: a15 :: a16 :: a17 :: a18 :: a19 :: a20 :: a21 :: a22 :: a23 :: a24 :: a25 :: a26 :: a27 :: a28 :: a29 :: a30 :: some d :: r) s = .ok d s := by rw [evE]; rfl
@[simp] theorem ev_v32 {d : D} {a0 a1 a2 a3 a4 a5 a6 a7 a8 a9 a10 a11 a12 a13 a14 a15 a16 a17 a18 a19 a20 a21 a22 a23 a24 a25 a26 a27 a28 a29 a30 a31 : Option D} {r : En} : evE c (.var 32) (a0 :: a1 :: a2 :: a3 :: a4 :: a5 :: a6 :: a7 :: a8 :: a9 :: a10 :: a11 :: a12 :: a13 :: a14 :: a15 :: a16 :: a17 :: a18 :: a19 :: a20 :: a21 :: a22 :: a23 :: a24 :: a25 :: a26 :: a27 :: a28 :: a29 :: a30 :: a31 :: some d :: r) s = .ok d s := by rw [evE]; rfl
@[simp] theorem ev_v33 {d : D} {a0 a1 a2 a3 a4 a5 a6 a7 a8 a9 a10 a11 a12 a13 a14 a15 a16 a17 a18 a19 a20 a21 a22 a23 a24 a25 a26 a27 a28 a29 a30 a31 a32 : Option D} {r : En} : evE c (.var 33) (a0 :: a1 :: a2 :: a3 :: a4 :: a5 :: a6 :: a7 :: a8 :: a9 :: a10 :: a11 :: a12 :: a13 :: a14 :: a15 :: a16 :: a17 :: a18 :: a19 :: a20 :: a21 :: a22 :: a23 :: a24 :: a25 :: a26 :: a27 :: a28 :: a29 :: a30 :: a31 :: a32 :: some d :: r) s = .ok d s := by rw [evE]; rfl
@[simp] theorem ev_v34 {d : D} {a0 a1 a2 a3 a4 a5 a6 a7 a8 a9 a10 a11 a12 a13 a14 a15 a16 a17 a18 a19 a20 a21 a22 a23 a24 a25 a26 a27 a28 a29 a30 a31 a32 a33 : Option D} {r : En} : evE c (.var 34) (a0 :: a1 :: a2 :: a3 :: a4 :: a5 :: a6 :: a7 :: a8 :: a9 :: a10 :: a11 :: a12 :: a13 :: a14 :: a15 :: a16 :: a17 :: a18 :: a19 :: a20 :: a21 :: a22 :: a23 :: a24 :: a25 :: a26 :: a27 :: a28 :: a29 :: a30 :: a31 :: a32 :: a33 :: some d :: r) s = .ok d s := by rw [evE]; rfl
@[simp] theorem ev_v35 {d : D} {a0 a1 a2 a3 a4 a5 a6 a7 a8 a9 a10 a11 a12 a13 a14 a15 a16 a17 a18 a19 a20 a21 a22 a23 a24 a25 a26 a27 a28 a29 a30 a31 a32 a33 a34 : Option D} {r : En} : evE c (.var 35) (a0 :: a1 :: a2 :: a3 :: a4 :: a5 :: a6 :: a7 :: a8 :: a9 :: a10 :: a11 :: a12 :: a13 :: a14 :: a15 :: a16 :: a17 :: a18 :: a19 :: a20 :: a21 :: a22 :: a23 :: a24 :: a25 :: a26 :: a27 :: a28 :: a29 :: a30 :: a31 :: a32 :: a33 :: a34 :: some d :: r) s = .ok d s := by rw [evE]; rfl
@[simp] theorem ev_v36 {d : D} {a0 a1 a2 a3 a4 a5 a6 a7 a8 a9 a10 a11 a12 a13 a14 a15 a16 a17 a18 a19 a20 a21 a22 a23 a24 a25 a26 a27 a28 a29 a30 a31 a32 a33 a34 a35 : Option D} {r : En} : evE c (.var 36) (a0 :: a1 :: a2 :: a3 :: a4 :: a5 :: a6 :: a7 :: a8 :: a9 :: a10 :: a11 :: a12 :: a13 :: a14 :: a15 :: a16 :: a17 :: a18 :: a19 :: a20 :: a21 :: a22 :: a23 :: a24 :: a25 :: a26 :: a27 :: a28 :: a29 :: a30 :: a31 :: a32 :: a33 :: a34 :: a35 :: some d :: r) s = .ok d s := by rw [evE]; rfl
@[simp] theorem ev_v37 {d : D} {a0 a1 a2 a3 a4 a5 a6 a7 a8 a9 a10 a11 a12 a13 a14 a15 a16 a17 a18 a19 a20 a21 a22 a23 a24 a25 a26 a27 a28 a29 a30 a31 a32 a33 a34 a35 a36 : Option D} {r : En} : evE c (.var 37) (a0 :: a1 :: a2 :: a3 :: a4 :: a5 :: a6 :: a7 :: a8 :: a9 :: a10 :: a11 :: a12 :: a13 :: a14 :: a15 :: a16 :: a17 :: a18 :: a19 :: a20 :: a21 :: a22 :: a23 :: a24 :: a25 :: a26 :: a27 :: a28 :: a29 :: a30 :: a31 :: a32 :: a33 :: a34 :: a35 :: a36 :: some d :: r) s = .ok d s := by rw [evE]; rfl
@[simp] theorem ev_v38 {d : D} {a0 a1 a2 a3 a4 a5 a6 a7 a8 a9 a10 a11 a12 a13 a14 a15 a16 a17 a18 a19 a20 a21 a22 a23 a24 a25 a26 a27 a28 a29 a30 a31 a32 a33 a34 a35 a36 a37 : Option D} {r : En} : evE c (.var 38) (a0 :: a1 :: a2 :: a3 :: a4 :: a5 :: a6 :: a7 :: a8 :: a9 :: a10 :: a11 :: a12 :: a13 :: a14 :: a15 :: a16 :: a17 :: a18 :: a19 :: a20 :: a21 :: a22 :: a23 :: a24 :: a25 :: a26 :: a27 :: a28 :: a29 :: a30 :: a31 :: a32 :: a33 :: a34 :: a35 :: a36 :: a37 :: some d :: r) s = .ok d s := by rw [evE]; rfl
@[simp] theorem ev_v39 {d : D} {a0 a1 a2 a3 a4 a5 a6 a7 a8 a9 a10 a11 a12 a13 a14 a15 a16 a17 a18 a19 a20 a21 a22 a23 a24 a25 a26 a27 a28 a29 a30 a31 a32 a33 a34 a35 a36 a37 a38 : Option D} {r : En} : evE c (.var 39) (a0 :: a1 :: a2 :: a3 :: a4 :: a5 :: a6 :: a7 :: a8 :: a9 :: a10 :: a11 :: a12 :: a13 :: a14 :: a15 :: a16 :: a17 :: a18 :: a19 :: a20 :: a21 :: a22 :: a23 :: a24 :: a25 :: a26 :: a27 :: a28 :: a29 :: a30 :: a31 :: a32 :: a33 :: a34 :: a35 :: a36 :: a37 :: a38 :: some d :: r) s = .ok d s := by rw [evE]; rfl
@[simp] theorem ev_v40 {d : D} {a0 a1 a2 a3 a4 a5 a6 a7 a8 a9 a10 a11 a12 a13 a14 a15 a16 a17 a18 a19 a20 a21 a22 a23 a24 a25 a26 a27 a28 a29 a30 a31 a32 a33 a34 a35 a36 a37 a38 a39 : Option D} {r : En} : evE c (.var 40) (a0 :: a1 :: a2 :: a3 :: a4 :: a5 :: a6 :: a7 :: a8 :: a9 :: a10 :: a11 :: a12 :: a13 :: a14 :: a15 :: a16 :: a17 :: a18 :: a19 :: a20 :: a21 :: a22 :: a23 :: a24 :: a25 :: a26 :: a27 :: a28 :: a29 :: a30 :: a31 :: a32 :: a33 :: a34 :: a35 :: a36 :: a37 :: a38 :: a39 :: some d :: r) s = .ok d s := by rw [evE]; rfl
end
end Pm
namespace Pm
open Pv
def dropS : Nat → CSs → CSs
  | 0, b => b
  | _, .nil => .nil
  | k + 1, .cons _ r => dropS k r
def takeS : Nat → CSs → CSs
  | 0, _ => .nil
  | _, .nil => .nil
  | k + 1, .cons a r => .cons a (takeS k r)
theorem ss_app {c : Cl} : ∀ (k : Nat) (b : CSs) (e : En) (s : Sto), evSs c b e s = seqS (evSs c (takeS k b) e s) fun e s => evSs c (dropS k b) e s
  | 0, b, e, s => by simp [takeS, dropS]
  | k + 1, .nil, e, s => by simp [takeS, dropS]
  | k + 1, .cons a r, e, s => by
    simp only [takeS, dropS, ev_ss_cons]
    cases h : evS c a e s with
    | nx e1 s1 => simp only [seqS_nx]; exact ss_app k r e1 s1
    | _ => rfl
/-- the law's last line: turns, none of which is told -/
theorem turns {c : Cl} {e : En} {s : Sto} {x : PySem.Str} {i m : Nat} {t : CE} {Inv : Sto → Prop} (hm : m ≤ 5000000) (hi : Inv s)
    (hb : ∀ (d : D) s, Inv s → ∃ s', evE c t ((e.set i none).set i (some d)) s = .ok (.bl true) s' ∧ Inv s') :
    ∃ s', evS c (.ret (.cmp .eq (.comp [(x, i)] (.nm i) (.range (.cons (.lit (.int (m : Int))) .nil)) (.cons (.not t) .nil) (.var i)) (.lst .nil))) e s = .ret (.bl true) s' ∧ Inv s' := by
  obtain ⟨s', h1, h2⟩ := loopA_nix (α := Nat) (body := fun k s => (((evE c t ((e.set i none).set i (some (nI k))) s).bind fun x s => (truth x s).bind fun k s => .ok (.bl (!k)) s).bind fun x s => (truth x s).bind fun k' s => (if k' = true then .ok true s else .ok false s : Out Bool)).bind fun k' s => if k' = true then (evE c (.var i) ((e.set i none).set i (some (nI k))) s).bind fun y s => .ok (some y) s else .ok none s) (xs := List.range m) hi (fun k _ s hs => by
    obtain ⟨s', g1, g2⟩ := hb (nI k) s hs
    exact ⟨s', by simp only [g1, bind_ok, truth_bl, Bool.not_true, Bool.false_eq_true, if_false], g2⟩)
  refine ⟨s', ?_, h2⟩
  simp only [ev_s_ret, ev_cmp, ev_comp', ev_i_range, ev_cons, ev_nil, ev_lit, bind_ok, rng1 hm, Option.map_some, liftO_some, loopC_map0, wipeE_cons, wipeE_nil, ev_t_nm, ev_if_cons, ev_if_nil, ev_not]
  rw [h1]
  simp
end Pm
end
section
set_option maxRecDepth 100000
set_option maxHeartbeats 1000000
namespace K52
open Pv Pm LawTop LK
open PySem (Str)
section
theorem w_table {s : Sto} (hs : CI s) (n : Nat) : ∃ rows s', okT rows ∧ CI s' ∧ callN F (n + 2) 28 [.loc 0] s = .ok (tD rows) s' := by
  obtain ⟨r, s1, r1, hs1, g1⟩ := w_roll hs (many := 2) (by omega) (by omega)
  by_cases q : r = 0
  · subst q
    obtain ⟨r2, s2, r3, hs2, g2⟩ := w_roll hs1 (many := 2) (by omega) (by omega)
    obtain ⟨ys, s3, e3, hl, hy, hs3⟩ := comp_roll (c := ⟨callN F (n + 1)⟩) (e := [some (.loc 0), none, none]) (s0 := s1) (m := 2 + r2) (x := "ware") (i := 2)
      (a := .bin .add (.lit (.int 2)) (.call 25 (.cons (.var 0) (.cons (.lit (.int 2)) .nil)))) (b := .bin .add (.lit (.int 1)) (.call 25 (.cons (.var 0) (.cons (.lit (.int 6)) .nil)))) (R := fun y => ∃ v, y = .int v ∧ (1 ≤ v ∧ v ≤ 6)) (by simp [g2 n]) (by omega) hs2 (fun x s hs => by
      obtain ⟨r4, s4, r5, hs4, g4⟩ := w_roll hs (many := 6) (by omega) (by omega)
      exact ⟨.int (1 + r4), s4, by simp [g4 n], ⟨_, rfl, by omega, by omega⟩, hs4⟩)
    obtain ⟨vs, rfl, hv⟩ := iD_of hy
    have hvl : vs.length = 2 + r2 := by simpa using hl
    refine ⟨[vs], s3, .inl ⟨vs, rfl, by omega, by omega, hv⟩, hs3, ?_⟩
    have e : evSs ⟨callN F (n + 1)⟩ b__law_table [some (.loc 0), none, none] s = .ret (tD [vs]) s3 := by
      simp [-ev_comp', b__law_table, g1 n, e3, tD, lD_cons]
    rw [c__law_table e]
    obtain ⟨c0, c1, _, _, rfl⟩ := hs
    obtain ⟨d0, d1, _, _, rfl⟩ := hs3
    simp [tD]
  · obtain ⟨r2, s2, r3, hs2, g2⟩ := w_roll hs1 (many := 2) (by omega) (by omega)
    obtain ⟨ys, s3, e3, hl, hy, hs3⟩ := comp_roll (c := ⟨callN F (n + 1)⟩) (e := [some (.loc 0), some (.int (3 + r2)), none]) (s0 := s2) (m := 3 + r2) (x := "ware") (i := 2)
      (a := .var 1) (b := .call 25 (.cons (.var 0) (.cons (.lit (.int 5)) .nil))) (R := fun y => ∃ v, y = .int v ∧ (0 ≤ v ∧ v ≤ 4)) (by simp) (by omega) hs2 (fun x s hs => by
      obtain ⟨r4, s4, r5, hs4, g4⟩ := w_roll hs (many := 5) (by omega) (by omega)
      exact ⟨.int r4, s4, by simp [g4 n], ⟨_, rfl, by omega, by omega⟩, hs4⟩)
    obtain ⟨vs, rfl, hv⟩ := iD_of hy
    have hvl : vs.length = 3 + r2 := by simpa using hl
    refine ⟨[List.replicate (3 + r2) 1, vs], s3, .inr ⟨_, _, rfl, by simp, by simp; omega, by simp, by simp [hvl], hv⟩, hs3, ?_⟩
    have q' : ¬ (r : Int) = 0 := by omega
    have g3 : binD .mul (.tup [.int 1]) (.int (3 + r2)) = some (.tup (iD (List.replicate (3 + r2) 1))) := by
      have : r2 = 0 ∨ r2 = 1 := by omega
      rcases this with rfl | rfl <;> rfl
    have e : evSs ⟨callN F (n + 1)⟩ b__law_table [some (.loc 0), none, none] s = .ret (tD [List.replicate (3 + r2) 1, vs]) s3 := by
      simp [-ev_comp', b__law_table, g1 n, g2 n, e3, tD, lD_cons, q, q', g3]
    rw [c__law_table e]
    obtain ⟨c0, c1, _, _, rfl⟩ := hs
    obtain ⟨d0, d1, _, _, rfl⟩ := hs3
    simp [tD]
end
end K52
end
section
set_option maxRecDepth 100000
set_option maxHeartbeats 1000000
namespace K52
open Pv Pm LawTop LK
open PySem (Str)
theorem at_last {xs : List D} {d : D} : atD (xs ++ [d]) (-1) = some d := by
  unfold atD
  simp
  refine ⟨by omega, ?_⟩
  rw [show (-1 + ((xs.length : Int) + 1)).toNat = xs.length by omega]
  simp
def stB : CSs := (.cons (.app (.var 4) (.call 25 (.cons (.var 0) (.cons (.bin .add (.bin .fdiv (.var 3) (.var 2)) (.lit (.int 1))) .nil)))) (.cons (.asg (.nm 3) (.bin .sub (.var 3) (.bin .mul (.idx (.var 4) (.neg (.lit (.int 1)))) (.var 2)))) .nil))
theorem stock_loop {n : Nat} {T : Option D} : ∀ (ws acc : Vc) (L : Int) (s : Sto) (x2 : Option D), (∀ w ∈ ws, 1 ≤ w ∧ w ≤ 6) → 0 ≤ L ∧ L ≤ 36 → CI s → acc.length + ws.length ≤ 100 →
    ∃ (new : Vc) (L' : Int) (s' : Sto) (y2 : Option D), loopS (fun d e s => thenS (evT ⟨callN F (n + 1)⟩ (.nm 2) d e s) e fun e1 s1 => evSs ⟨callN F (n + 1)⟩ stB e1 s1) [] (iD ws) [some (.loc 0), T, x2, some (.int L), some (.loc 1)] (s ++ [.lst (iD acc)]) =
      .nx [some (.loc 0), T, y2, some (.int L'), some (.loc 1)] (s' ++ [.lst (iD (acc ++ new))]) ∧ CI s' ∧ new.length = ws.length ∧ (∀ v ∈ new, 0 ≤ v) ∧ dot ws new + L' = L ∧ 0 ≤ L'
  | [], acc, L, s, x2, _, hL, hs, _ => ⟨[], L, s, x2, by simp [loopS], hs, rfl, by simp, by simp, hL.1⟩
  | w :: ws, acc, L, s, x2, hw, hL, hs, hl => by
    have hw1 := hw w (by simp)
    have d0 : 0 ≤ L / w := Int.ediv_nonneg hL.1 (by omega)
    have d1 : L / w ≤ 36 := Int.le_trans (Int.ediv_le_self w hL.1) hL.2
    obtain ⟨r, s1, r1, hs1, g1⟩ := w_rollR hs (many := L / w + 1) (by omega) (by omega)
    have e1 : (r : Int) * w ≤ L := by
      have := Int.mul_le_mul_of_nonneg_right (show (r : Int) ≤ L / w by omega) (show 0 ≤ w by omega)
      have q2 := Int.ediv_mul_le L (show w ≠ 0 by omega)
      omega
    have e2 : 0 ≤ (r : Int) * w := Int.mul_nonneg (by omega) (by omega)
    simp only [List.length_cons] at hl
    obtain ⟨new, L', s', y2, h1, h2, h3, h4, h5, h6⟩ := stock_loop (n := n) (T := T) ws (acc ++ [(r : Int)]) (L - (r : Int) * w) s1 (some (.int w)) (fun v hv => hw v (by simp [hv])) ⟨by omega, by omega⟩ hs1 (by rw [List.length_append, List.length_singleton]; omega)
    refine ⟨(r : Int) :: new, L', s', y2, ?_, h2, by simp [h3], fun v hv => ?_, by rw [dot_cons, Int.mul_comm w]; omega, h6⟩
    · have q1 : binD .fdiv (.int L) (.int w) = some (.int (L / w)) := d_div (by omega) (by omega)
      have q2 : binD .mul (.int (r : Int)) (.int w) = some (.int ((r : Int) * w)) := d_mul (by omega)
      obtain ⟨c0, c1, _, _, rfl⟩ := hs1
      have hb : big = 16777216 := rfl
      have q3 := app_last (s := [cup c0 c1]) (xs := iD acc) (d := .int (r : Int)) (by simp; omega) rfl iD_below
      have q4 : atD (iD acc ++ [.int (r : Int)]) (-1) = some (.int (r : Int)) := at_last
      have g1' := g1 n [.lst (iD acc)]
      simp only [List.singleton_append, List.length_singleton] at q3 g1'
      have body : thenS (evT ⟨callN F (n + 1)⟩ (.nm 2) (.int w) [some (.loc 0), T, x2, some (.int L), some (.loc 1)] (s ++ [.lst (iD acc)])) [some (.loc 0), T, x2, some (.int L), some (.loc 1)] (fun e1 s1 => evSs ⟨callN F (n + 1)⟩ stB e1 s1) =
          .nx [some (.loc 0), T, some (.int w), some (.int (L - (r : Int) * w)), some (.loc 1)] ([cup c0 c1] ++ [.lst (iD (acc ++ [(r : Int)]))]) := by
        simp [stB, q1, g1', q3, q4, q2, iD_app, iD_cons]
      rw [iD_cons]
      simp only [loopS, gok_nil, if_true, body]
      rw [h1]
      simp
    · rcases List.mem_cons.mp hv with z | z
      · rw [z]; omega
      · exact h4 v z
theorem w_stock {s : Sto} (hs : CI s) {rows : List Vc} (h : okT rows) (n : Nat) : ∃ st s', Ok rows st ∧ dot (r0 rows) st ≤ most rows ∧ CI s' ∧ callN F (n + 2) 32 [.loc 0, tD rows] s = .ok (.tup (iD st)) s' := by
  obtain ⟨h1, h2, h3, t, ht⟩ := okT_r0 h
  have m0 : 0 ≤ most rows ∧ most rows ≤ 36 := by unfold most; split <;> omega
  obtain ⟨new, L', s', y2, g1, g2, g3, g4, g5, g6⟩ := stock_loop (n := n) (T := some (tD rows)) (r0 rows) [] (most rows) s none h3 m0 hs (by simp; omega)
  refine ⟨new, s', ⟨g3, g4⟩, by omega, g2, ?_⟩
  have i1 : (lD rows)[0]? = some (.tup (iD (r0 rows))) := by rw [ht]; simp [lD_cons, r0]
  obtain ⟨c0, c1, _, _, rfl⟩ := hs
  obtain ⟨d0, d1, _, _, rfl⟩ := g2
  have e : evSs ⟨callN F (n + 1)⟩ b__law_stock [some (.loc 0), some (tD rows), none, none, none] [cup c0 c1] = .ret (.tup (iD new)) [cup d0 d1, .lst (iD new)] := by
    simp only [iD_nil, List.nil_append, List.singleton_append] at g1
    have st1 : evS ⟨callN F (n + 1)⟩ (.asg (.tp (.cons (.nm 3) (.cons (.nm 4) .nil))) (.tup (.cons (.ite (.cmp .eq (.bi .len (.cons (.var 1) .nil)) (.lit (.int 1))) (.lit (.int 36)) (.lit (.int 8))) (.cons (.thaw (.lst .nil)) .nil)))) [some (.loc 0), some (tD rows), none, none, none] [cup c0 c1] = .nx [some (.loc 0), some (tD rows), none, some (.int (most rows)), some (.loc 1)] [cup c0 c1, .lst []] := by
      have tb : belows 1 [] = true := rfl
      by_cases q : rows.length = 1
      · have q' : most rows = 36 := by unfold most; rw [if_pos q]
        simp [tD, q, q', tb]
      · have q' : most rows = 8 := by unfold most; rw [if_neg q]
        have q2 : ¬ (rows.length : Int) = 1 := by omega
        simp [tD, q, q', q2, tb]
    unfold b__law_stock
    rw [ev_ss_cons, st1, seqS_nx, ev_ss_cons, Pm.ev_s_for, ev_i_of]
    have i2 : evE ⟨callN F (n + 1)⟩ (.idx (.var 1) (.lit (.int 0))) [some (.loc 0), some (tD rows), none, some (.int (most rows)), some (.loc 1)] [cup c0 c1, .lst []] = .ok (.tup (iD (r0 rows))) [cup c0 c1, .lst []] := by simp [tD, i1]
    rw [i2, bind_ok, walk_tup, liftO_some, thenS_ok]
    unfold stB at g1
    rw [g1]
    simp
  rw [c__law_stock e]
  simp
end K52
end
section
set_option maxRecDepth 100000
set_option maxHeartbeats 1000000
namespace K52
open Pv Pm LawTop LK
open PySem (Str)
def rt0 : CS := (.asg (.nm 2) (.ite (.cmp .eq (.bi .len (.cons (.var 1) .nil)) (.lit (.int 1))) (.lit (.int 36)) (.lit (.int 8))))
def rt1 : CS := (.asg (.nm 3) (.call 13 (.cons (.var 1) (.cons (.call 10 (.cons (.var 1) (.cons (.call 32 (.cons (.var 0) (.cons (.var 1) .nil))) .nil))) .nil))))
def rt2 : CS := (.asg (.tp (.cons (.nm 10) (.cons (.nm 11) (.cons (.nm 12) .nil)))) (.comp [("turn", 18)] (.nm 18) (.range (.cons (.lit (.int 3)) .nil)) .nil (.call 26 (.cons (.var 0) (.cons (.var 3) .nil)))))
def rt3 : CS := (.asg (.tp (.cons (.nm 13) (.cons (.nm 14) .nil))) (.tup (.cons (.call 29 (.cons (.var 11) (.cons (.call 30 (.cons (.neg (.lit (.int 1))) (.cons (.var 10) .nil))) .nil))) (.cons (.call 29 (.cons (.var 10) (.cons (.call 30 (.cons (.neg (.lit (.int 1))) (.cons (.var 11) .nil))) .nil))) .nil))))
def rt4 : CS := (.asg (.nm 4) (.tup (.cons (.call 17 (.cons (.var 1) (.cons (.var 13) .nil))) (.cons (.call 23 (.cons (.var 1) (.cons (.var 10) (.cons (.var 13) .nil)))) (.cons (.call 23 (.cons (.var 1) (.cons (.var 11) (.cons (.var 14) .nil)))) (.cons (.call 19 (.cons (.var 1) (.cons (.var 13) .nil))) (.cons (.call 20 (.cons (.var 1) (.cons (.var 13) .nil))) .nil)))))))
def rt5 : CS := (.asg (.tp (.cons (.nm 15) (.cons (.nm 16) .nil))) (.tup (.cons (.bi .tuple (.cons (.comp [("many", 6)] (.nm 6) (.of (.var 13)) .nil (.bi .max (.cons (.var 6) (.cons (.lit (.int 0)) .nil)))) .nil)) (.cons (.bi .tuple (.cons (.comp [("many", 6)] (.nm 6) (.of (.var 14)) .nil (.bi .max (.cons (.var 6) (.cons (.lit (.int 0)) .nil)))) .nil)) .nil))))
def rt6 : CS := (.ife (.or (.not (.call 27 (.cons (.var 4) (.cons (.tup (.cons (.lit (.bl true)) (.cons (.var 11) (.cons (.var 10) (.cons (.var 15) (.cons (.var 16) .nil)))))) .nil)))) (.not (.call 27 (.cons (.tup (.cons (.call 19 (.cons (.var 1) (.cons (.var 14) .nil))) (.cons (.call 20 (.cons (.var 1) (.cons (.var 14) .nil))) .nil))) (.cons (.tup (.cons (.var 16) (.cons (.var 15) .nil))) .nil))))) (.cons (.ret (.lit (.bl false))) .nil) .nil)
def rt7 : CS := (.asg (.nm 5) (.call 29 (.cons (.var 13) (.cons (.call 29 (.cons (.var 12) (.cons (.call 30 (.cons (.neg (.lit (.int 1))) (.cons (.var 11) .nil))) .nil))) .nil))))
def rt8 : CS := (.ife (.not (.call 27 (.cons (.tup (.cons (.call 17 (.cons (.var 1) (.cons (.var 5) .nil))) (.cons (.call 23 (.cons (.var 1) (.cons (.var 10) (.cons (.var 5) .nil)))) .nil))) (.cons (.tup (.cons (.lit (.bl true)) (.cons (.var 12) .nil))) .nil)))) (.cons (.ret (.lit (.bl false))) .nil) .nil)
def rt9 : CS := (.for_ (.nm 6) (.of (.tup (.cons (.lit (.int 2)) (.cons (.lit (.int 3)) (.cons (.lit (.int 5)) .nil))))) (.cons (.asg (.nm 17) (.cmp .le (.bin .mul (.var 6) (.call 31 (.cons (.var 1) (.cons (.var 16) .nil)))) (.var 2))) (.cons (.ife (.not (.call 27 (.cons (.call 17 (.cons (.var 1) (.cons (.call 30 (.cons (.var 6) (.cons (.var 13) .nil))) .nil))) (.cons (.var 17) .nil)))) (.cons (.ret (.lit (.bl false))) .nil) .nil) .nil)))
def rt10 : CS := (.ife (.cmp .eq (.call 31 (.cons (.var 1) (.cons (.var 16) .nil))) (.lit (.int 0))) (.cons (.ret (.lit (.bl true))) .nil) .nil)
def rt11 : CS := (.asg (.nm 7) (.call 26 (.cons (.var 0) (.cons (.comp [("ware", 19)] (.nm 19) (.range (.cons (.bi .len (.cons (.var 16) .nil)) .nil)) (.cons (.cmp .gt (.idx (.var 16) (.var 19)) (.lit (.int 0))) .nil) (.var 19)) .nil))))
def rt12 : CS := (.asg (.nm 8) (.bin .add (.bin .add (.slc (.var 16) .nil (.cons (.var 7) .nil)) (.tup (.cons (.bin .sub (.idx (.var 16) (.var 7)) (.lit (.int 1))) .nil))) (.slc (.var 16) (.cons (.bin .add (.var 7) (.lit (.int 1))) .nil) .nil)))
def rt13 : CS := (.asg (.nm 9) (.bi .tuple (.cons (.comp [("many", 6)] (.nm 6) (.of (.var 16)) .nil (.bin .add (.var 6) (.lit (.int 1)))) .nil)))
def rt14 : CS := (.ife (.tryL (.bl true) [(5, (.bl false))] (.call 23 (.cons (.var 1) (.cons (.var 8) (.cons (.var 13) .nil))))) (.cons (.ret (.lit (.bl false))) .nil) .nil)
def rt15 : CS := (.ife (.and (.cmp .is_ (.call 8 (.cons (.var 1) (.cons (.var 9) .nil))) (.lit (.bl true))) (.not (.call 27 (.cons (.call 23 (.cons (.var 1) (.cons (.var 9) (.cons (.var 13) .nil)))) (.cons (.call 29 (.cons (.var 9) (.cons (.var 13) .nil))) .nil))))) (.cons (.ret (.lit (.bl false))) .nil) .nil)
def rt16 : CS := (.ret (.call 27 (.cons (.call 17 (.cons (.var 1) (.cons (.bin .add (.bin .add (.slc (.var 13) .nil (.cons (.var 7) .nil)) (.tup (.cons (.bin .sub (.idx (.var 13) (.var 7)) (.lit (.int 1))) .nil))) (.slc (.var 13) (.cons (.bin .add (.var 7) (.lit (.int 1))) .nil) .nil)) .nil))) (.cons (.lit (.bl false)) .nil))))
theorem rt_eq : b__law_right = (.cons rt0 (.cons rt1 (.cons rt2 (.cons rt3 (.cons rt4 (.cons rt5 (.cons rt6 (.cons rt7 (.cons rt8 (.cons rt9 (.cons rt10 (.cons rt11 (.cons rt12 (.cons rt13 (.cons rt14 (.cons rt15 (.cons rt16 .nil))))))))))))))))) := rfl
abbrev N : Option D := none
section
variable {n : Nat} {s : Sto} {rows : List Vc}
abbrev CC (n : Nat) : Cl := ⟨callN F (n + 20)⟩
theorem nolocs_lD {l : List Vc} : nolocs (lD l) = true := pints_nolocs 1 _ lD_pint
theorem st0 {C : Option D} {r : En} : evS (CC n) rt0 (C :: some (tD rows) :: N :: r) s = .nx (C :: some (tD rows) :: some (.int (most rows)) :: r) s := by
  unfold most
  by_cases q : rows.length = 1
  · simp [rt0, tD, q]
  · have q2 : ¬ (rows.length : Int) = 1 := by omega
    simp [rt0, tD, q, q2]
theorem st1 (hs : CI s) (h : okT rows) {a : Option D} {r : En} : ∃ (xs : List Vc) (tot : Vc) (s' : Sto), CI s' ∧ xs ≠ [] ∧ xs.length ≤ big ∧ (∀ x ∈ xs, St rows tot x ∧ dot (r0 rows) x ≤ most rows) ∧ evS (CC n) rt1 (some (.loc 0) :: some (tD rows) :: a :: N :: r) s = .nx (some (.loc 0) :: some (tD rows) :: a :: some (.tup (lD xs)) :: r) s' := by
  obtain ⟨st, s', o, hm, hs', e⟩ := w_stock hs h (n + 18)
  obtain ⟨xs, h1, h2, h3, h4⟩ := w_yd h o hm
  have hf : FS rows st = true := by rw [fs_eq h o]; exact decide_eq_true hm
  obtain ⟨h1', h2', h3', t, ht⟩ := okT_r0 h
  refine ⟨xs, dots rows st, s', hs', h1, h2, fun x hx => ⟨h3 x hx, ?_⟩, ?_⟩
  · have e1 := st_dot (h3 x hx) (⟨o, rfl⟩ : St rows (dots rows st) st) (r0 rows) (by rw [ht]; simp [r0])
    omega
  · simp [rt1, e, w_totals h o.len hf, h4]
theorem st2 (hs : CI s) {xs : List Vc} {P : Vc → Prop} (h1 : xs ≠ []) (h2 : xs.length ≤ big) (hP : ∀ x ∈ xs, P x) {a b x4 x5 x6 x7 x8 x9 : Option D} {r : En} : ∃ x y z s', P x ∧ P y ∧ P z ∧ CI s' ∧
    evS (CC n) rt2 [some (.loc 0), a, b, some (.tup (lD xs)), x4, x5, x6, x7, x8, x9, N, N, N, N, N, N, N, N, N, N] s = .nx [some (.loc 0), a, b, some (.tup (lD xs)), x4, x5, x6, x7, x8, x9, some (.tup (iD x)), some (.tup (iD y)), some (.tup (iD z)), N, N, N, N, N, N, N] s' := by
  obtain ⟨ys, s', e3, hl, hy, hs'⟩ := comp_roll (c := CC n) (e := [some (.loc 0), a, b, some (.tup (lD xs)), x4, x5, x6, x7, x8, x9, N, N, N, N, N, N, N, N, N, N]) (s0 := s) (m := 3) (x := "turn") (i := 18) (a := .lit (.int 3)) (b := .call 26 (.cons (.var 0) (.cons (.var 3) .nil)))
    (R := fun d => ∃ x, d = .tup (iD x) ∧ P x) (by simp) (by omega) hs (fun d s hs => by
      obtain ⟨x, hx, s', hs', e⟩ := w_someR hs (xs := lD xs) (fun q => h1 (List.map_eq_nil_iff.mp q)) (by rw [lD_len]; exact h2) nolocs_lD (k := false)
      have := e (n + 18) []
      simp only [Bool.false_eq_true, if_false, List.append_nil] at this
      simp only [lD, List.mem_map] at hx
      obtain ⟨v, hv, rfl⟩ := hx
      exact ⟨_, s', by simp [this], ⟨v, rfl, hP v hv⟩, hs'⟩)
  match ys, hl with
  | [a1, a2, a3], _ =>
    obtain ⟨x, rfl, hx⟩ := hy a1 (by simp)
    obtain ⟨y, rfl, hy1⟩ := hy a2 (by simp)
    obtain ⟨z, rfl, hz⟩ := hy a3 (by simp)
    exact ⟨x, y, z, s', hx, hy1, hz, hs', by simp [rt2, ↓e3]⟩
/-- what holds of the chosen three -/
structure Three (rows : List Vc) (tot x y z : Vc) : Prop where
  h : okT rows
  hx : St rows tot x
  hy : St rows tot y
  hz : St rows tot z
  mx : dot (r0 rows) x ≤ most rows
  my : dot (r0 rows) y ≤ most rows
  mz : dot (r0 rows) z ≤ most rows
theorem fs_of (h : okT rows) {tot x : Vc} (hx : St rows tot x) (mx : dot (r0 rows) x ≤ most rows) : FS rows x = true := by rw [fs_eq h hx.ok]; exact decide_eq_true mx
theorem len_bg (h : okT rows) {x : Vc} (hl : x.length = (r0 rows).length) : x.length ≤ big := big_of (by have := okT_r0 h; omega)
theorem st3 {tot x y z : Vc} (t : Three rows tot x y z) {v2 v3 v4 v5 v6 v7 v8 v9 v12 : Option D} {r : En} :
    evS (CC n) rt3 (some (.loc 0) :: some (tD rows) :: v2 :: v3 :: v4 :: v5 :: v6 :: v7 :: v8 :: v9 :: some (.tup (iD x)) :: some (.tup (iD y)) :: v12 :: N :: N :: r) s = .nx (some (.loc 0) :: some (tD rows) :: v2 :: v3 :: v4 :: v5 :: v6 :: v7 :: v8 :: v9 :: some (.tup (iD x)) :: some (.tup (iD y)) :: v12 :: some (.tup (iD (sub y x))) :: some (.tup (iD (sub x y))) :: r) s := by
  have bx := len_bg t.h t.hx.ok.len
  have bY := len_bg t.h t.hy.ok.len
  simp [rt3, w_tms (k := -1) (by omega) bx, w_tms (k := -1) (by omega) bY, w_add bx, w_add bY]
def toldD (R P L : Vc) (x y : Vc) : D := .tup [.bl true, .tup (iD y), .tup (iD x), .tup (iD P), .tup (iD L)]
theorem st4 {tot x y z : Vc} (t : Three rows tot x y z) {v2 v3 v5 v6 v7 v8 v9 v12 : Option D} {r : En} :
    evS (CC n) rt4 (some (.loc 0) :: some (tD rows) :: v2 :: v3 :: N :: v5 :: v6 :: v7 :: v8 :: v9 :: some (.tup (iD x)) :: some (.tup (iD y)) :: v12 :: some (.tup (iD (sub y x))) :: some (.tup (iD (sub x y))) :: r) s = .nx (some (.loc 0) :: some (tD rows) :: v2 :: v3 :: some (.tup [.bl true, .tup (iD y), .tup (iD x), .tup (iD (pl (sub y x))), .tup (iD (pl (sub x y)))]) :: v5 :: v6 :: v7 :: v8 :: v9 :: some (.tup (iD x)) :: some (.tup (iD y)) :: v12 :: some (.tup (iD (sub y x))) :: some (.tup (iD (sub x y))) :: r) s := by
  have lxy : x.length = y.length := by rw [t.hx.ok.len, t.hy.ok.len]
  obtain ⟨R, hR⟩ : ∃ R, R = sub y x := ⟨_, rfl⟩
  obtain ⟨B, hB⟩ : ∃ B, B = sub x y := ⟨_, rfl⟩
  have lR : R.length = (r0 rows).length := by rw [hR, sub_len lxy.symm, t.hy.ok.len]
  have lB : B.length = (r0 rows).length := by rw [hB, sub_len lxy, t.hx.ok.len]
  have fR : FX rows R = true := by rw [hR]; exact fx_sub t.h t.hx t.hy t.my
  have fB : FX rows B = true := by rw [hB]; exact fx_sub t.h t.hy t.hx t.mx
  have gR : has x R = true := by rw [hR]; exact has_sub x y lxy t.hy.ok.nn
  have gB : has y B = true := by rw [hB]; exact has_sub y x lxy.symm t.hx.ok.nn
  have aR : add x R = y := by rw [hR]; exact add_sub x y lxy
  have aB : add y B = x := by rw [hB]; exact add_sub y x lxy.symm
  have nR : ng R = pl B := by rw [hR, hB]; exact ng_eq y x lxy.symm
  rw [← hR, ← hB]
  simp [rt4, w_isx t.h lR, fR, w_made t.h t.hx.ok.len (fs_of t.h t.hx t.mx) lR fR gR, aR, w_made t.h t.hy.ok.len (fs_of t.h t.hy t.my) lB fB gB, aB, w_br t.h lR fR, w_tk t.h lR fR, nR]
theorem comp_pl {c : Cl} {e : En} {i : Nat} {a : Vc} (h : (e.set 6 none)[i]? = some (some (.tup (iD a)))) (hi : e[i]? = some (some (.tup (iD a)))) (h6 : 6 < e.length) (hl : a.length ≤ big) : evE c (.comp [("many", 6)] (.nm 6) (.of (.var i)) .nil (.bi .max (.cons (.var 6) (.cons (.lit (.int 0)) .nil)))) e s = .ok (.lst (iD (pl a))) s := by
  have hv : ∀ (d : D) (s : Sto), evE c (.var 6) ((e.set 6 none).set 6 (some d)) s = .ok d s := fun d s => ev_var (by simp [h6])
  simp only [ev_comp', ev_i_of, ev_var hi, bind_ok, walk_tup, liftO_some, loopC_iD, wipeE_cons, wipeE_nil, ev_t_nm, ev_if_nil, if_true, ev_bi, ev_cons, ev_nil, hv, ev_lit, List.map_cons, List.map_nil, rd_int']
  have : ∀ v : Int, biD .max [.int v, .int 0] = some (.int (pz v)) := fun v => by simp [pz]
  simp only [this, lift_some, bind_ok, loopA_pure, noExc_ok, map_int]
  rw [if_pos (by rw [iD_len, List.length_map]; exact hl)]
  rfl
theorem st5 {tot x y z : Vc} (t : Three rows tot x y z) {v2 v3 v4 v5 v6 v7 v8 v9 v10 v11 v12 : Option D} {r : En} :
    evS (CC n) rt5 (some (.loc 0) :: some (tD rows) :: v2 :: v3 :: v4 :: v5 :: v6 :: v7 :: v8 :: v9 :: v10 :: v11 :: v12 :: some (.tup (iD (sub y x))) :: some (.tup (iD (sub x y))) :: N :: N :: r) s = .nx (some (.loc 0) :: some (tD rows) :: v2 :: v3 :: v4 :: v5 :: v6 :: v7 :: v8 :: v9 :: v10 :: v11 :: v12 :: some (.tup (iD (sub y x))) :: some (.tup (iD (sub x y))) :: some (.tup (iD (pl (sub y x)))) :: some (.tup (iD (pl (sub x y)))) :: r) s := by
  have lxy : x.length = y.length := by rw [t.hx.ok.len, t.hy.ok.len]
  have b1 : (sub y x).length ≤ big := len_bg t.h (by rw [sub_len lxy.symm, t.hy.ok.len])
  have b2 : (sub x y).length ≤ big := len_bg t.h (by rw [sub_len lxy, t.hx.ok.len])
  have h1 := fun s => comp_pl (s := s) (c := CC n) (e := (some (.loc 0) :: some (tD rows) :: v2 :: v3 :: v4 :: v5 :: v6 :: v7 :: v8 :: v9 :: v10 :: v11 :: v12 :: some (.tup (iD (sub y x))) :: some (.tup (iD (sub x y))) :: N :: N :: r)) (i := 13) (a := sub y x) rfl rfl (by simp) b1
  have h2 := fun s => comp_pl (s := s) (c := CC n) (e := (some (.loc 0) :: some (tD rows) :: v2 :: v3 :: v4 :: v5 :: v6 :: v7 :: v8 :: v9 :: v10 :: v11 :: v12 :: some (.tup (iD (sub y x))) :: some (.tup (iD (sub x y))) :: N :: N :: r)) (i := 14) (a := sub x y) rfl rfl (by simp) b2
  obtain ⟨R, hR⟩ : ∃ R, R = sub y x := ⟨_, rfl⟩
  obtain ⟨B, hB⟩ : ∃ B, B = sub x y := ⟨_, rfl⟩
  simp only [← hR, ← hB] at h1 h2 ⊢
  simp [rt5, ↓h1, ↓h2]
end
end K52
end
section
set_option maxRecDepth 100000
set_option maxHeartbeats 1000000
namespace K52
open Pv Pm LawTop LK
open PySem (Str)
/-- what is told of two stocks: the exchange, the one back, what comes and goes -/
structure Two (rows : List Vc) (x y R B P L : Vc) : Prop where
  h : okT rows
  lx : x.length = (r0 rows).length
  ly : y.length = (r0 rows).length
  lR : R.length = (r0 rows).length
  lB : B.length = (r0 rows).length
  fR : FX rows R = true
  fB : FX rows B = true
  pR : pl R = P
  nR : ng R = L
  pB : pl B = L
  nB : ng B = P
  fk : ∀ k : Int, 0 < k → FX rows (tms k R) = decide (k * dot (r0 rows) L ≤ most rows)
  mL : dot (r0 rows) L ≤ most rows
theorem two_of {rows : List Vc} {tot x y z : Vc} (t : Three rows tot x y z) : Two rows x y (sub y x) (sub x y) (pl (sub y x)) (pl (sub x y)) := by
  have lxy : x.length = y.length := by rw [t.hx.ok.len, t.hy.ok.len]
  have lR : (sub y x).length = (r0 rows).length := by rw [sub_len lxy.symm, t.hy.ok.len]
  have lB : (sub x y).length = (r0 rows).length := by rw [sub_len lxy, t.hx.ok.len]
  have fB := fx_sub t.h t.hy t.hx t.mx
  refine ⟨t.h, t.hx.ok.len, t.hy.ok.len, lR, lB, fx_sub t.h t.hx t.hy t.my, fB, rfl, ng_eq y x lxy.symm, rfl, ng_eq x y lxy, fun k hk => ?_, ?_⟩
  · rw [fx_tms t.h t.hx t.hy hk, ng_eq y x lxy.symm]
  · rw [fx_eq t.h lB] at fB
    simp only [Bool.and_eq_true, decide_eq_true_eq] at fB
    exact fB.1
section
variable {n : Nat} {s : Sto} {rows : List Vc} {x y z R B P L : Vc} {r : En}
theorem lk_t {k : Nat} (h : okT rows) (hl : x.length = (r0 rows).length) : decide ((iD x).length ≤ 1000000) = true ∧ (iD x).all (lk k) = true := ⟨decide_eq_true (by rw [iD_len]; have := okT_r0 h; omega), lk_iD⟩
theorem st6 (t : Two rows x y R B P L) (lP : P.length = (r0 rows).length) (lL : L.length = (r0 rows).length) {v2 v3 v5 v6 v7 v8 v9 v12 : Option D} {r : En} :
    evS (CC n) rt6 (some (.loc 0) :: some (tD rows) :: v2 :: v3 :: some (.tup [.bl true, .tup (iD y), .tup (iD x), .tup (iD P), .tup (iD L)]) :: v5 :: v6 :: v7 :: v8 :: v9 :: some (.tup (iD x)) :: some (.tup (iD y)) :: v12 :: some (.tup (iD R)) :: some (.tup (iD B)) :: some (.tup (iD P)) :: some (.tup (iD L)) :: r) s = .nx (some (.loc 0) :: some (tD rows) :: v2 :: v3 :: some (.tup [.bl true, .tup (iD y), .tup (iD x), .tup (iD P), .tup (iD L)]) :: v5 :: v6 :: v7 :: v8 :: v9 :: some (.tup (iD x)) :: some (.tup (iD y)) :: v12 :: some (.tup (iD R)) :: some (.tup (iD B)) :: some (.tup (iD P)) :: some (.tup (iD L)) :: r) s := by
  have k1 : ∀ s, callN F (n + 20) 27 [.tup [.bl true, .tup (iD y), .tup (iD x), .tup (iD P), .tup (iD L)], .tup [.bl true, .tup (iD y), .tup (iD x), .tup (iD P), .tup (iD L)]] s = .ok (.bl true) s := fun s => w_like 2 _ (by
    have := @lk_t; simp only [lk, List.all_cons, List.all_nil, Bool.and_true, Bool.and_eq_true]
    refine ⟨by simp, trivial, ?_, ?_, ?_, ?_⟩
    · exact lk_t t.h t.ly
    · exact lk_t t.h t.lx
    · exact lk_t t.h lP
    · exact lk_t t.h lL) (n := n + 17)
  have k2 : ∀ s, callN F (n + 20) 27 [.tup [.tup (iD L), .tup (iD P)], .tup [.tup (iD L), .tup (iD P)]] s = .ok (.bl true) s := fun s => w_like 2 _ (by
    simp only [lk, List.all_cons, List.all_nil, Bool.and_true, Bool.and_eq_true]
    exact ⟨by simp, lk_t t.h lL, lk_t t.h lP⟩) (n := n + 17)
  simp [rt6, k1, k2, w_br t.h t.lB t.fB, w_tk t.h t.lB t.fB, t.pB, t.nB]
theorem st7 (h : okT rows) (lz : z.length = (r0 rows).length) (ly : y.length = (r0 rows).length) (lx : x.length = (r0 rows).length) {v2 v3 v4 v6 v7 v8 v9 v10 : Option D} {r : En} :
    evS (CC n) rt7 (some (.loc 0) :: some (tD rows) :: v2 :: v3 :: v4 :: N :: v6 :: v7 :: v8 :: v9 :: v10 :: some (.tup (iD y)) :: some (.tup (iD z)) :: some (.tup (iD (sub y x))) :: r) s = .nx (some (.loc 0) :: some (tD rows) :: v2 :: v3 :: v4 :: some (.tup (iD (sub z x))) :: v6 :: v7 :: v8 :: v9 :: v10 :: some (.tup (iD y)) :: some (.tup (iD z)) :: some (.tup (iD (sub y x))) :: r) s := by
  have e := sub_sub x y z (by omega) (by omega)
  have b1 : (sub y x).length ≤ big := len_bg h (by rw [sub_len (by omega), ly])
  have e2 := w_add (n := n + 19) (s := s) (a := sub y x) (b := sub z y) b1
  rw [e] at e2
  obtain ⟨Q, hQ⟩ : ∃ Q, Q = sub z y := ⟨_, rfl⟩
  obtain ⟨R, hR⟩ : ∃ R, R = sub y x := ⟨_, rfl⟩
  obtain ⟨S, hS⟩ : ∃ S, S = sub z x := ⟨_, rfl⟩
  simp only [← hQ, ← hR, ← hS] at e2 ⊢
  simp [rt7, w_tms (k := -1) (by omega) (len_bg h ly), w_add (len_bg h lz), ← hQ, e2]
theorem st8 (h : okT rows) {tot : Vc} (hx : St rows tot x) (hz : St rows tot z) (mx : dot (r0 rows) x ≤ most rows) (mz : dot (r0 rows) z ≤ most rows) {v2 v3 v4 v6 v7 v8 v9 v11 : Option D} {r : En} :
    evS (CC n) rt8 (some (.loc 0) :: some (tD rows) :: v2 :: v3 :: v4 :: some (.tup (iD (sub z x))) :: v6 :: v7 :: v8 :: v9 :: some (.tup (iD x)) :: v11 :: some (.tup (iD z)) :: r) s = .nx (some (.loc 0) :: some (tD rows) :: v2 :: v3 :: v4 :: some (.tup (iD (sub z x))) :: v6 :: v7 :: v8 :: v9 :: some (.tup (iD x)) :: v11 :: some (.tup (iD z)) :: r) s := by
  have lxz : x.length = z.length := by rw [hx.ok.len, hz.ok.len]
  obtain ⟨S, hS⟩ : ∃ S, S = sub z x := ⟨_, rfl⟩
  have lS : S.length = (r0 rows).length := by rw [hS, sub_len lxz.symm, hz.ok.len]
  have fS : FX rows S = true := by rw [hS]; exact fx_sub h hx hz mz
  have gS : has x S = true := by rw [hS]; exact has_sub x z lxz hz.ok.nn
  have aS : add x S = z := by rw [hS]; exact add_sub x z lxz
  have k1 : ∀ s, callN F (n + 20) 27 [.tup [.bl true, .tup (iD z)], .tup [.bl true, .tup (iD z)]] s = .ok (.bl true) s := fun s => w_like 2 _ (by
    simp only [lk, List.all_cons, List.all_nil, Bool.and_true, Bool.and_eq_true]
    exact ⟨by simp, trivial, lk_t h hz.ok.len⟩) (n := n + 17)
  rw [← hS]
  simp [rt8, w_isx h lS, fS, w_made h hx.ok.len (fs_of h hx mx) lS fS gS, aS, k1]
theorem st9 (t : Two rows x y R B P L) {v3 v4 v5 v6 v7 v8 v9 v10 v11 v12 v14 v15 : Option D} {r : En} : ∃ y6 y17,
    evS (CC n) rt9 (some (.loc 0) :: some (tD rows) :: some (.int (most rows)) :: v3 :: v4 :: v5 :: v6 :: v7 :: v8 :: v9 :: v10 :: v11 :: v12 :: some (.tup (iD R)) :: v14 :: v15 :: some (.tup (iD L)) :: N :: r) s = .nx (some (.loc 0) :: some (tD rows) :: some (.int (most rows)) :: v3 :: v4 :: v5 :: y6 :: v7 :: v8 :: v9 :: v10 :: v11 :: v12 :: some (.tup (iD R)) :: v14 :: v15 :: some (.tup (iD L)) :: y17 :: r) s := by
  have bR := len_bg t.h t.lR
  have k1 : ∀ (b : Bool) s, callN F (n + 20) 27 [.bl b, .bl b] s = .ok (.bl true) s := fun b s => w_like 0 _ (by simp [lk]) (n := n + 19)
  have lk2 : ∀ k : Int, (tms k R).length = (r0 rows).length := fun k => by rw [len_tms, t.lR]
  have m2 : binD .mul (.int 2) (.int (dot (r0 rows) L)) = some (.int (2 * dot (r0 rows) L)) := d_mul' (by omega)
  have m3 : binD .mul (.int 3) (.int (dot (r0 rows) L)) = some (.int (3 * dot (r0 rows) L)) := d_mul' (by omega)
  have m5 : binD .mul (.int 5) (.int (dot (r0 rows) L)) = some (.int (5 * dot (r0 rows) L)) := d_mul' (by omega)
  refine ⟨some (.int 5), some (.bl (decide (5 * dot (r0 rows) L ≤ most rows))), ?_⟩
  simp [rt9, loopS, w_first t.h, m2, m3, m5, w_tms (k := 2) (by omega) bR, w_tms (k := 3) (by omega) bR, w_tms (k := 5) (by omega) bR, w_isx t.h (lk2 _), t.fk, k1]
end
end K52
end
section
set_option maxRecDepth 100000
set_option maxHeartbeats 1000000
namespace K52
open Pv Pm LawTop LK
open PySem (Str)
section
variable {n : Nat} {s : Sto} {rows : List Vc} {x y z R B P L : Vc} {r : En}
theorem get_iD {a : Vc} {i : Nat} (h : i < a.length) : (iD a)[i]? = some (.int a[i]) := by simp only [iD, List.getElem?_map, List.getElem?_eq_getElem h, Option.map_some]
/-- a place that has something, if not all is nothing -/
theorem some_pos : ∀ (r a : Vc), (∀ v ∈ a, 0 ≤ v) → dot r a ≠ 0 → ∃ i, ∃ h : i < a.length, 0 < a[i]
  | [], a, _, h => absurd (dot_nil a) h
  | _ :: _, [], _, h => absurd (dot_nil2 _) h
  | r :: rs, a :: as, hn, h => by
    by_cases q : 0 < a
    · exact ⟨0, by simp, q⟩
    · have : a = 0 := by have := hn a (by simp); omega
      subst this
      obtain ⟨i, hi, hp⟩ := some_pos rs as (fun v hv => hn v (by simp [hv])) (by simpa using h)
      exact ⟨i + 1, by simp; omega, hp⟩
theorem st11 (hs : CI s) (h : okT rows) (lL : L.length = (r0 rows).length) (hn : ∀ v ∈ L, 0 ≤ v) (hd : dot (r0 rows) L ≠ 0) {v1 v2 v3 v4 v5 v6 v8 v9 v10 v11 v12 v13 v14 v15 v17 v18 v19 : Option D} : ∃ (i : Nat) (hi : i < L.length) (s' : Sto), 0 < L[i] ∧ CI s' ∧
    evS (CC n) rt11 [some (.loc 0), v1, v2, v3, v4, v5, v6, N, v8, v9, v10, v11, v12, v13, v14, v15, some (.tup (iD L)), v17, v18, v19] s = .nx [some (.loc 0), v1, v2, v3, v4, v5, v6, some (.int (i : Nat)), v8, v9, v10, v11, v12, v13, v14, v15, some (.tup (iD L)), v17, v18, v19] s' := by
  have h4 : L.length ≤ 4 := by have := okT_r0 h; omega
  have hb : big = 16777216 := rfl
  obtain ⟨is, his⟩ : ∃ is : List Nat, is = (List.range L.length).filter fun k => decide (0 < L.getD k 0) := ⟨_, rfl⟩
  have hil : is.length ≤ 4 := by
    have := List.length_filter_le (fun k => decide (0 < L.getD k 0)) (List.range L.length)
    rw [← his, List.length_range] at this
    omega
  have hc : evE (CC n) (.comp [("ware", 19)] (.nm 19) (.range (.cons (.bi .len (.cons (.var 16) .nil)) .nil)) (.cons (.cmp .gt (.idx (.var 16) (.var 19)) (.lit (.int 0))) .nil) (.var 19)) [some (.loc 0), v1, v2, v3, v4, v5, v6, N, v8, v9, v10, v11, v12, v13, v14, v15, some (.tup (iD L)), v17, v18, v19] s = .ok (.lst (is.map nI)) s := by
    simp [rng1 (show L.length ≤ 5000000 by omega), -nI_int]
    rw [loopA_congr rfl rfl (g := fun k s => if 0 < L.getD k 0 then .ok (some (nI k)) s else .ok none s) (fun k hk s => by
      have hk := List.mem_range.mp hk
      by_cases q : 0 < L[k]
      · simp [get_iD hk, q, List.getD_eq_getElem?_getD, List.getElem?_eq_getElem hk]
      · simp [get_iD hk, q, List.getD_eq_getElem?_getD, List.getElem?_eq_getElem hk])]
    rw [loopA_filter]
    rw [← his]
    simp only [noExc_ok, bind_ok, List.length_map]
    rw [if_pos (by omega)]
  have hne : is ≠ [] := by
    obtain ⟨i, hi, hp⟩ := some_pos (r0 rows) L hn hd
    refine List.ne_nil_of_mem (a := i) ?_
    rw [his, List.mem_filter]
    exact ⟨List.mem_range.mpr hi, by simpa [List.getD_eq_getElem?_getD, List.getElem?_eq_getElem hi] using hp⟩
  obtain ⟨d, hd', s', hs', e⟩ := w_someR hs (xs := is.map nI) (fun q => hne (List.map_eq_nil_iff.mp q)) (by rw [List.length_map]; omega) (by rw [nolocs_iff]; intro d hd; obtain ⟨k, _, rfl⟩ := List.mem_map.mp hd; rfl) (k := true)
  obtain ⟨i, hi, rfl⟩ := List.mem_map.mp hd'
  rw [his, List.mem_filter] at hi
  have hi1 := List.mem_range.mp hi.1
  have e' := e (n + 18) []
  simp only [if_true, List.append_nil] at e'
  refine ⟨i, hi1, s', ?_, hs', ?_⟩
  · have := hi.2
    simpa [List.getD_eq_getElem?_getD, List.getElem?_eq_getElem hi1] using this
  · have e3 : callN F (n + 20) 26 [.loc 0, .lst (is.map nI)] s = .ok (nI i) s' := e'
    simp only [rt11, ev_s_asg, ev_call, ev_cons, ev_nil, ev_v0, bind_ok, hc, e3, ev_t_nm, toS_ok]
    rfl
theorem set_cut {a : Vc} {i : Nat} (h : i < a.length) {v : Int} : (iD a).take i ++ .int v :: (iD a).drop (i + 1) = iD (a.set i v) := by
  rw [List.set_eq_take_append_cons_drop, if_pos h]
  simp only [iD, List.map_append, List.map_cons, List.map_take, List.map_drop]
theorem st12 (h : okT rows) (lL : L.length = (r0 rows).length) {i : Nat} (hi : i < L.length) {v0 v1 v2 v3 v4 v5 v6 v9 v10 v11 v12 v13 v14 v15 : Option D} {r : En} :
    evS (CC n) rt12 (v0 :: v1 :: v2 :: v3 :: v4 :: v5 :: v6 :: some (.int (i : Nat)) :: N :: v9 :: v10 :: v11 :: v12 :: v13 :: v14 :: v15 :: some (.tup (iD L)) :: r) s = .nx (v0 :: v1 :: v2 :: v3 :: v4 :: v5 :: v6 :: some (.int (i : Nat)) :: some (.tup (iD (L.set i (L[i] - 1)))) :: v9 :: v10 :: v11 :: v12 :: v13 :: v14 :: v15 :: some (.tup (iD L)) :: r) s := by
  have h4 : L.length ≤ 4 := by have := okT_r0 h; omega
  have hb : big = 16777216 := rfl
  have c1 : cutD (iD L) none (some (i : Int)) = (iD L).take i := cut_to (by rw [iD_len]; omega)
  have c2 : cutD (iD L) (some ((i : Int) + 1)) none = (iD L).drop (i + 1) := cut_from (k := i + 1) (by rw [iD_len]; omega)
  have a1 : binD .add (.tup ((iD L).take i)) (.tup [.int (L[i] - 1)]) = some (.tup ((iD L).take i ++ [.int (L[i] - 1)])) := bin_add_t (by simp; omega)
  have a2 : binD .add (.tup ((iD L).take i ++ [.int (L[i] - 1)])) (.tup ((iD L).drop (i + 1))) = some (.tup (iD (L.set i (L[i] - 1)))) := by
    rw [bin_add_t (by simp; omega), ← set_cut hi]; simp
  simp [rt12, c1, c2, get_iD hi, a1, a2]
theorem st13 (bL : L.length ≤ big) {v0 v1 v2 v3 v4 v5 v6 v7 v8 v10 v11 v12 v13 v14 v15 : Option D} {r : En} :
    evS (CC n) rt13 (v0 :: v1 :: v2 :: v3 :: v4 :: v5 :: v6 :: v7 :: v8 :: N :: v10 :: v11 :: v12 :: v13 :: v14 :: v15 :: some (.tup (iD L)) :: r) s = .nx (v0 :: v1 :: v2 :: v3 :: v4 :: v5 :: v6 :: v7 :: v8 :: some (.tup (iD (L.map fun x => x + 1))) :: v10 :: v11 :: v12 :: v13 :: v14 :: v15 :: some (.tup (iD L)) :: r) s := by
  simp [rt13, bL]
theorem st14 (t : Two rows x y R B P L) {q : Vc} (lq : q.length = (r0 rows).length) (fq : FS rows q = true) (gq : has q R = false) {v0 v2 v3 v4 v5 v6 v7 v9 v10 v11 v12 : Option D} {r : En} :
    evS (CC n) rt14 (v0 :: some (tD rows) :: v2 :: v3 :: v4 :: v5 :: v6 :: v7 :: some (.tup (iD q)) :: v9 :: v10 :: v11 :: v12 :: some (.tup (iD R)) :: r) s = .nx (v0 :: some (tD rows) :: v2 :: v3 :: v4 :: v5 :: v6 :: v7 :: some (.tup (iD q)) :: v9 :: v10 :: v11 :: v12 :: some (.tup (iD R)) :: r) s := by
  simp [rt14, w_made_no t.h lq fq t.lR t.fR gq, try_exc]
theorem st15 (t : Two rows x y R B P L) {q : Vc} (lq : q.length = (r0 rows).length) (gq : has q R = true) {v0 v2 v3 v4 v5 v6 v7 v8 v10 v11 v12 : Option D} {r : En} :
    evS (CC n) rt15 (v0 :: some (tD rows) :: v2 :: v3 :: v4 :: v5 :: v6 :: v7 :: v8 :: some (.tup (iD q)) :: v10 :: v11 :: v12 :: some (.tup (iD R)) :: r) s = .nx (v0 :: some (tD rows) :: v2 :: v3 :: v4 :: v5 :: v6 :: v7 :: v8 :: some (.tup (iD q)) :: v10 :: v11 :: v12 :: some (.tup (iD R)) :: r) s := by
  cases fq : FS rows q
  · simp [rt15, w_isstock t.h lq, fq]
  · have bq := len_bg t.h lq
    have lqr : (add q R).length = (r0 rows).length := by rw [len_add, lq, t.lR]; simp
    have k1 : ∀ s, callN F (n + 20) 27 [.tup (iD (add q R)), .tup (iD (add q R))] s = .ok (.bl true) s := fun s => w_like 1 _ (by
      simp only [lk, Bool.and_eq_true]; exact lk_t t.h lqr) (n := n + 18)
    simp [rt15, w_isstock t.h lq, fq, w_made t.h lq fq t.lR t.fR gq, w_add bq, k1]
theorem st16 (t : Two rows x y R B P L) {i : Nat} (hi : i < R.length) (hf : FX rows (R.set i (R[i] - 1)) = false) {v0 v2 v3 v4 v5 v6 v8 v9 v10 v11 v12 : Option D} {r : En} :
    evS (CC n) rt16 (v0 :: some (tD rows) :: v2 :: v3 :: v4 :: v5 :: v6 :: some (.int (i : Nat)) :: v8 :: v9 :: v10 :: v11 :: v12 :: some (.tup (iD R)) :: r) s = .ret (.bl true) s := by
  have h4 : R.length ≤ 4 := by rw [t.lR]; have := okT_r0 t.h; omega
  have hb : big = 16777216 := rfl
  have c1 : cutD (iD R) none (some (i : Int)) = (iD R).take i := cut_to (by rw [iD_len]; omega)
  have c2 : cutD (iD R) (some ((i : Int) + 1)) none = (iD R).drop (i + 1) := cut_from (k := i + 1) (by rw [iD_len]; omega)
  have a1 : binD .add (.tup ((iD R).take i)) (.tup [.int (R[i] - 1)]) = some (.tup ((iD R).take i ++ [.int (R[i] - 1)])) := bin_add_t (by simp; omega)
  have a2 : binD .add (.tup ((iD R).take i ++ [.int (R[i] - 1)])) (.tup ((iD R).drop (i + 1))) = some (.tup (iD (R.set i (R[i] - 1)))) := by
    rw [bin_add_t (by simp; omega), ← set_cut hi]; simp
  have l2 : (R.set i (R[i] - 1)).length = (r0 rows).length := by rw [List.length_set, t.lR]
  have k1 : ∀ s, callN F (n + 20) 27 [.bl false, .bl false] s = .ok (.bl true) s := fun s => w_like 0 _ rfl (n := n + 19)
  simp [rt16, c1, c2, get_iD hi, a1, a2, w_isx t.h l2, hf, k1]
end
end K52
end
section
set_option maxRecDepth 100000
set_option maxHeartbeats 1000000
namespace K52
open Pv Pm LawTop LK
open PySem (Str)
section
variable {n : Nat} {s : Sto} {rows : List Vc} {x y z R B P L : Vc}
theorem pl_set : ∀ (a : Vc) (i : Nat) (hi : i < a.length), a[i] < 0 → pl (a.set i (a[i] - 1)) = pl a
  | [], i, hi, _ => absurd hi (by simp)
  | a :: as, 0, hi, h => by
    have h' : a < 0 := h
    simp [pz, h', show a - 1 < 0 by omega]
  | a :: as, i + 1, hi, h => by
    have ih := pl_set as i (by simpa using hi) (by simpa using h)
    simp only [List.set_cons_succ, List.getElem_cons_succ, pl_cons] at ih ⊢
    rw [ih]
theorem ng_set : ∀ (a : Vc) (i : Nat) (hi : i < a.length), a[i] < 0 → ng (a.set i (a[i] - 1)) = (ng a).set i ((ng a)[i]'(by rw [len_ng]; exact hi) + 1)
  | [], i, hi, _ => absurd hi (by simp)
  | a :: as, 0, hi, h => by
    have h' : a < 0 := h
    simp [pz, show ¬ -a < 0 by omega, show ¬ -(a - 1) < 0 by omega]
    omega
  | a :: as, i + 1, hi, h => by
    have ih := ng_set as i (by simpa using hi) (by simpa using h)
    simp only [List.set_cons_succ, List.getElem_cons_succ, ng_cons] at ih ⊢
    rw [ih]
theorem fx_bad (t : Two rows x y R B P L) {i : Nat} (hi : i < R.length) (hp : R[i] < 0) : FX rows (R.set i (R[i] - 1)) = false := by
  obtain ⟨h1, h2, h3, tt, ht⟩ := okT_r0 t.h
  have l2 : (R.set i (R[i] - 1)).length = (r0 rows).length := by rw [List.length_set, t.lR]
  rw [fx_eq t.h l2, pl_set R i hi hp, ng_set R i hi hp]
  have : dots rows (pl R) ≠ dots rows ((ng R).set i ((ng R)[i]'(by rw [len_ng]; exact hi) + 1)) := by
    intro e
    have f := t.fR
    rw [fx_eq t.h t.lR] at f
    simp only [Bool.and_eq_true, decide_eq_true_eq] at f
    have e0 := f.2
    rw [ht] at e e0
    simp only [dots, List.map_cons, List.cons.injEq] at e e0
    have g := dot_set (r0 rows) (ng R) i ((ng R)[i]'(by rw [len_ng]; exact hi) + 1) (by rw [len_ng, t.lR]) (by rw [len_ng]; exact hi) (by rw [← t.lR]; exact hi)
    have w := (h3 ((r0 rows)[i]'(by rw [← t.lR]; exact hi)) (List.getElem_mem _)).1
    rw [show (ng R)[i]'(by rw [len_ng]; exact hi) + 1 - (ng R)[i]'(by rw [len_ng]; exact hi) = 1 by omega, Int.mul_one] at g
    omega
  simp [this]
theorem fs_poor (t : Two rows x y R B P L) (lL : L.length = (r0 rows).length) (hn : ∀ v ∈ L, 0 ≤ v) {i : Nat} (hi : i < L.length) (hp : 0 < L[i]) : FS rows (L.set i (L[i] - 1)) = true := by
  obtain ⟨h1, h2, h3, tt, ht⟩ := okT_r0 t.h
  have hm := t.mL
  have o : Ok rows (L.set i (L[i] - 1)) := ⟨by rw [List.length_set, lL], fun v hv => by
    rcases set_mem hv with z | z
    · exact hn v z
    · omega⟩
  rw [fs_eq t.h o, decide_eq_true_eq]
  have g := dot_set (r0 rows) L i (L[i] - 1) lL.symm hi (by rw [← lL]; exact hi)
  have w := (h3 ((r0 rows)[i]'(by rw [← lL]; exact hi)) (List.getElem_mem _)).1
  rw [show L[i] - 1 - L[i] = -1 by omega] at g
  omega
theorem w_right (hs : CI s) (h : okT rows) : ∃ s', CI s' ∧ callN F (n + 21) 33 [.loc 0, tD rows] s = .ok (.bl true) s' := by
  obtain ⟨xs, tot, s1, hs1, x1, x2, x3, e1⟩ := st1 (n := n) hs h (a := some (.int (most rows))) (r := [N, N, N, N, N, N, N, N, N, N, N, N, N, N, N, N])
  obtain ⟨x, y, z, s2, ⟨hx, mx⟩, ⟨hy, my⟩, ⟨hz, mz⟩, hs2, e2⟩ := st2 (n := n) hs1 x1 x2 x3 (a := some (tD rows)) (b := some (.int (most rows))) (x4 := N) (x5 := N) (x6 := N) (x7 := N) (x8 := N) (x9 := N) (r := [])
  have t : Three rows tot x y z := ⟨h, hx, hy, hz, mx, my, mz⟩
  have t2 := two_of t
  have lP : (pl (sub y x)).length = (r0 rows).length := by rw [len_pl, t2.lR]
  have lL : (pl (sub x y)).length = (r0 rows).length := by rw [len_pl, t2.lB]
  obtain ⟨y6, y17, e9⟩ := st9 (n := n) (s := s2) t2 (v3 := some (.tup (lD xs))) (v4 := some (.tup [.bl true, .tup (iD y), .tup (iD x), .tup (iD (pl (sub y x))), .tup (iD (pl (sub x y)))])) (v5 := some (.tup (iD (sub z x)))) (v6 := N) (v7 := N) (v8 := N) (v9 := N) (v10 := some (.tup (iD x))) (v11 := some (.tup (iD y))) (v12 := some (.tup (iD z))) (v14 := some (.tup (iD (sub x y)))) (v15 := some (.tup (iD (pl (sub y x))))) (r := [N, N])
  have fin : ∃ s', CI s' ∧ evSs (CC n) b__law_right [some (.loc 0), some (tD rows), N, N, N, N, N, N, N, N, N, N, N, N, N, N, N, N, N, N] s = .ret (.bl true) s' := by
    rw [rt_eq, ev_ss_cons, st0, seqS_nx, ev_ss_cons, e1, seqS_nx, ev_ss_cons, e2, seqS_nx, ev_ss_cons, st3 t, seqS_nx, ev_ss_cons, st4 t, seqS_nx, ev_ss_cons, st5 t, seqS_nx, ev_ss_cons, st6 t2 lP lL, seqS_nx, ev_ss_cons, st7 h hz.ok.len hy.ok.len hx.ok.len, seqS_nx, ev_ss_cons, st8 h hx hz mx mz, seqS_nx, ev_ss_cons, e9, seqS_nx]
    generalize sub y x = R at t2 lP lL
    generalize sub x y = B at t2 lP lL
    generalize pl R = P at t2 lP lL
    generalize pl B = L at t2 lP lL
    have hn : ∀ v ∈ L, 0 ≤ v := by rw [← t2.nR]; exact ng_nn R
    by_cases q : dot (r0 rows) L = 0
    · refine ⟨s2, hs2, ?_⟩
      have e10 : ∀ e : En, evS (CC n) rt10 (some (.loc 0) :: some (tD rows) :: some (.int (most rows)) :: some (.tup (lD xs)) :: some (.tup [.bl true, .tup (iD y), .tup (iD x), .tup (iD P), .tup (iD L)]) :: some (.tup (iD (sub z x))) :: y6 :: N :: N :: N :: some (.tup (iD x)) :: some (.tup (iD y)) :: some (.tup (iD z)) :: some (.tup (iD R)) :: some (.tup (iD B)) :: some (.tup (iD P)) :: some (.tup (iD L)) :: e) s2 = .ret (.bl true) s2 := fun e => by
        simp [rt10, w_first h, q]
      rw [ev_ss_cons, e10, seqS_ret]
    · have e10 : ∀ e : En, evS (CC n) rt10 (some (.loc 0) :: some (tD rows) :: some (.int (most rows)) :: some (.tup (lD xs)) :: some (.tup [.bl true, .tup (iD y), .tup (iD x), .tup (iD P), .tup (iD L)]) :: some (.tup (iD (sub z x))) :: y6 :: N :: N :: N :: some (.tup (iD x)) :: some (.tup (iD y)) :: some (.tup (iD z)) :: some (.tup (iD R)) :: some (.tup (iD B)) :: some (.tup (iD P)) :: some (.tup (iD L)) :: e) s2 = .nx (some (.loc 0) :: some (tD rows) :: some (.int (most rows)) :: some (.tup (lD xs)) :: some (.tup [.bl true, .tup (iD y), .tup (iD x), .tup (iD P), .tup (iD L)]) :: some (.tup (iD (sub z x))) :: y6 :: N :: N :: N :: some (.tup (iD x)) :: some (.tup (iD y)) :: some (.tup (iD z)) :: some (.tup (iD R)) :: some (.tup (iD B)) :: some (.tup (iD P)) :: some (.tup (iD L)) :: e) s2 := fun e => by
        simp [rt10, w_first h, q]
      obtain ⟨i, hi, s3, hp, hs3, e11⟩ := st11 (n := n) (s := s2) hs2 h lL hn q (v1 := some (tD rows)) (v2 := some (.int (most rows))) (v3 := some (.tup (lD xs))) (v4 := some (.tup [.bl true, .tup (iD y), .tup (iD x), .tup (iD P), .tup (iD L)])) (v5 := some (.tup (iD (sub z x)))) (v6 := y6) (v8 := N) (v9 := N) (v10 := some (.tup (iD x))) (v11 := some (.tup (iD y))) (v12 := some (.tup (iD z))) (v13 := some (.tup (iD R))) (v14 := some (.tup (iD B))) (v15 := some (.tup (iD P))) (v17 := y17) (v18 := N) (v19 := N)
      have hiR : i < R.length := by rw [t2.lR, ← lL]; exact hi
      have hL : L = ng R := t2.nR.symm
      have hRi : R[i] < 0 := by
        have := ng_at hiR
        simp only [hL, this] at hp
        unfold pz at hp
        split at hp <;> omega
      have gp : has (L.set i (L[i] - 1)) R = false := by
        have := has_poor R i hiR hRi
        simp only [hL]
        exact this
      have gr : has (L.map fun x => x + 1) R = true := by rw [hL]; exact has_rich R
      refine ⟨s3, hs3, ?_⟩
      rw [ev_ss_cons, e10, seqS_nx, ev_ss_cons, e11, seqS_nx, ev_ss_cons, st12 h lL hi, seqS_nx, ev_ss_cons, st13 (len_bg h lL), seqS_nx,
        ev_ss_cons, st14 t2 (by rw [List.length_set, lL]) (fs_poor t2 lL hn hi hp) gp, seqS_nx, ev_ss_cons, st15 t2 (by rw [List.length_map, lL]) gr, seqS_nx, ev_ss_cons, st16 t2 hiR (fx_bad t2 hiR hRi), seqS_ret]
  obtain ⟨s', hs', e⟩ := fin
  refine ⟨s', hs', ?_⟩
  rw [c__law_right e]
  obtain ⟨c0, c1, _, _, rfl⟩ := hs
  obtain ⟨d0, d1, _, _, rfl⟩ := hs'
  simp
end
end K52
end
set_option maxRecDepth 100000
set_option maxHeartbeats 1000000
namespace K52
open Pv Pm LawTop LK
open PySem (Str)
def g2 : D := .tup [.tup [.int 1, .int 1, .int 1, .int 1], .tup [.int 0, .int 1, .int 2, .int 3]]
def g1 : D := .lst [.bl true, .bl false, .bl true, .bl false, .bl true]
def g4 : D := .tup [.tup [.int 1, .int 2]]
def g5 : D := .tup [.tup [.int 6, .int 5]]
theorem law_start (x : D) : evSs ⟨callN F 39⟩ (takeS 5 b_law) [some x, none, none, none, none, none, none, none, none] [] = .nx [some x, some g1, some g2, none, some g4, some g5, none, none, none] [] := by kernel_rfl
theorem law_end : dropS 5 b_law = .cons (.asg (.nm 3) (.thaw (.call 24 (.cons (.var 0) .nil)))) (.cons (.ret (.cmp .eq (.comp [("turn", 8)] (.nm 8) (.range (.cons (.lit (.int ((8 : Nat) : Int))) .nil)) (.cons (.not (.call 33 (.cons (.var 3) (.cons (.call 28 (.cons (.var 3) .nil)) .nil)))) .nil) (.var 8)) (.lst .nil))) .nil) := rfl
theorem hrun (ns : List Int) (hl : ns.length ≤ 63) : ∃ s', callN F 40 34 [.lst (iD ns)] [] = .ok (.bl true) s' := by
  obtain ⟨c0, c1, p0, p1, ec⟩ := w_cup (n := 38) (s := []) hl
  have tb : belows 0 [D.int c0, D.int c1] = true := rfl
  obtain ⟨s', e1, hi⟩ := turns (c := ⟨callN F 39⟩) (e := [some (.lst (iD ns)), some g1, some g2, some (.loc 0), some g4, some g5, none, none, none]) (s := [cup c0 c1]) (x := "turn") (i := 8) (m := 8) (t := .call 33 (.cons (.var 3) (.cons (.call 28 (.cons (.var 3) .nil)) .nil))) (Inv := CI) (by omega) ⟨c0, c1, p0, p1, rfl⟩ (fun d s hs => by
    obtain ⟨rows, s1, ok, hs1, h1⟩ := w_table hs 37
    obtain ⟨s2, hs2, h2⟩ := w_right (n := 18) hs1 ok
    exact ⟨s2, by simp [h1, h2], hs2⟩)
  have e : evSs ⟨callN F 39⟩ b_law [some (.lst (iD ns)), none, none, none, none, none, none, none, none] [] = .ret (.bl true) s' := by
    rw [ss_app 5, law_start, seqS_nx, law_end, ev_ss_cons]
    simp only [ev_s_asg, ev_thaw', ev_call, ev_cons, ev_v0, ev_nil, bind_ok, ec, cup, thawO_lst, List.length_nil, tb, if_true, List.nil_append, ev_t_nm, List.set, toS_ok, seqS_nx]
    rw [ev_ss_cons]
    simp only [cup] at e1
    rw [e1, seqS_ret]
  exact ⟨_, c_law (n := 39) e⟩
end K52
theorem PySem.Challenge.cw_blendhouse_k52_exchanges_added_and_doubl_holds : PySem.Challenge.rw_blendhouse_k52_exchanges_added_and_doubl.Holds :=
  claim_of K52.hrun
